import PyProof.Rows.All
import Wide.All
import OpenK.AllK
import Wide.FinOn
import KE.KStateDown
import Lean
import HandS.Base
import HandS.Call
import HandS.Ends
import HandS.More
import HandS.Words
import HandS.WordsExc
import HandS.Defaults
import HandS.Head0
import HandS.Head1
import HandS.Head2
import HandS.HeadEnd
import HandS.HeadHook1
import HandS.HeadHook2
import HandS.ForMost
import HandS.Exc
import HandS.ExcOwn
import HandS.ExcInit
import HandS.TryMany
import HandS.TryOnly
import HandS.ExcField
import HandS.Small
import HandS.Flow
import HandS.Style
import HandS.Conv
import HandS.DictComp
import HandS.SetKeys
import HandS.TupAny
import HandS.Zip
import HandS.IsInst
import HandS.TupLe
import HandS.SortInts
import HandS.Deep
import HandS.TupLen
import HandS.Walk
import KE.GoesMore
import PySem.Challenge.RW_likeslips_k04_whole_signs_told_in_small
set_option Elab.async false
set_option linter.all false
set_option maxRecDepth 100000
set_option maxHeartbeats 0
namespace Lk
open PySem L2

abbrev DKey := Sum Key (List Key)
inductive PV where
  | non | bl (b : Bool) | int (i : Int) | str (s : List Nat)
  | tup (xs : List PV) | lst (xs : List PV)
  /-- t: its keys are tuples -/
  | dic (t : Bool) (kvs : List (DKey × PV))
  | ins (C : String) (fs : List (String × PV)) | ref (k : Nat)
  /-- the script -/
  | scr (ns : List Int)
  /-- a tuple of the module's -/
  | ktp (xs : List PV)
  deriving Inhabited

inductive Bop | add | sub | mul | fdiv | mod | pow | shl | shr | band | bor | bxor
  deriving DecidableEq
inductive Cop | eq | ne | lt | le | gt | ge | is | isn | in_ | nin
  deriving DecidableEq
inductive Prim | len | int | str | tuple | list | sorted | all | any | sum | max | min | abs
  deriving DecidableEq
inductive Met | join | index | get
  deriving DecidableEq
inductive Mth | append | extend | pop | reverse | clear | setdefault | insert
  deriving DecidableEq

/-- what an except suite may say of its exception -/
inductive XX where
  | cst (v : PV) | fld (f : String) | pair (a b : XX) | lst1 (a : XX) | lst2 (a b : XX)

mutual
inductive XE where
  /-- not reached -/
  | nvr
  | var (i : Nat)
  | cst (v : PV)
  | glb (x : String) (v : PV)
  | bin (op : Bop) (a b : XE)
  | neg (a : XE)
  | not (a : XE)
  | cmp (op : Cop) (a b : XE)
  | cmp2 (op op' : Cop) (a b c : XE)
  | and (a b : XE)
  | or (a b : XE)
  /-- in a test -/
  | tand (a b : XE)
  | tor (a b : XE)
  | ite (c a b : XE)
  | lst (es : XEs)
  | tup (es : XEs)
  | dic (es : XEs)
  | dnew (t : Bool)
  | nref (e : XE)
  | idx (a i : XE)
  | slc (a lo hi : XE)
  | nop
  | rev (a : XE)
  | call (f : XF) (args : XEs)
  | self (args : XEs)
  | prm (p : Prim) (args : XEs)
  | isin (a : XE) (ds cs : List String)
  | met (m : Met) (o : XE) (args : XEs)
  | mut (m : Mth) (o : XE) (args : XEs)
  | comp (own : List Nat) (t : XT) (it : XI) (c e : XE)
  | dcomp (own : List Nat) (t : XT) (it : XI) (c k e : XE)
  | fld (a : XE) (cls : String) (f : String)
  | make (cls : String) (init : XF) (args : XEs)
inductive XEs where
  | nil | cons (e : XE) (r : XEs)
inductive XT where
  | name (i : Nat) | tup (ts : XTs)
inductive XTs where
  | nil | cons (t : XT) (r : XTs)
inductive XI where
  | val (e : XE) | rng1 (a : XE) | rng2 (a b : XE) | enum (e : XE) | zip (a b : XE) | items (e : XE) | values (e : XE)
inductive XS where
  | nvr
  | asg (t : XT) (e : XE)
  | setI (o i e : XE)
  | setF (o : XE) (cls : String) (f : String) (e : XE)
  | aug (i : Nat) (op : Bop) (e : XE)
  | expr (e : XE)
  | ifs (c : XE) (a b : XSs)
  | for_ (t : XT) (it : XI) (body : XSs)
  | whl (fuel : Nat) (c : XE) (body : XSs)
  | ret (e : XE)
  | retN | brk | cont | pass
  | raise (cls : String) (fs : List String) (args : XEs)
  | try_ (es : List String) (body : XSs) (hs : XHs)
inductive XSs where
  | nil | cons (s : XS) (r : XSs)
inductive XHs where
  | nil | cons (cls : String) (ex : Option Nat) (i : Nat) (px : XX) (r : XHs)
inductive XF where
  | mk (name : String) (np ns : Nat) (fuel : Nat) (body : XSs)
end
end Lk

namespace Lk
open PySem L2

inductive Cell where
  | non | val (v : PV) | own (v : PV)
  deriving Inhabited
structure Sg where
  env : List Cell
  mu : List PV
inductive R (α : Type) where
  | ok (a : α) | exc (c : String) (fs : List (String × PV))
abbrev Rs (α : Type) := Option (R α × Sg)
def rt {α : Type} (a : α) (s : Sg) : Rs α := some (.ok a, s)
def bd {α β : Type} (m : Rs α) (k : α → Sg → Rs β) : Rs β := match m with
  | some (.ok a, s) => k a s
  | some (.exc c fs, s) => some (.exc c fs, s)
  | none => none
def op1 {α β : Type} (m : Option α) (k : α → Rs β) : Rs β := match m with
  | some a => k a
  | none => none
/-- no exception may leave -/
def nox {α : Type} (m : Rs α) : Rs α := match m with
  | some (.ok a, s) => some (.ok a, s)
  | _ => none
inductive Pl where
  | v (p : PV) | sl (i : Nat)
def drf (mu : List PV) : PV → Option PV
  | .ref k => mu[k]?
  | p => some p
def Sg.look (s : Sg) : Pl → Option PV
  | .v p => drf s.mu p
  | .sl i => match s.env[i]? with
    | some (.own p) => some p
    | some (.val p) => drf s.mu p
    | _ => none
def Sg.lookL (s : Sg) : List Pl → Option (List PV)
  | [] => some []
  | p :: r => match s.look p, s.lookL r with
    | some v, some vs => some (v :: vs)
    | _, _ => none
/-- the thing at a place is made another one -/
def Sg.put (s : Sg) (pl : Pl) (p : PV) : Option Sg := match pl with
  | .v (.ref k) => if k < s.mu.length then some { s with mu := s.mu.set k p } else none
  | .v _ => none
  | .sl i => match s.env[i]? with
    | some (.own _) => some { s with env := s.env.set i (.own p) }
    | some (.val (.ref k)) => if k < s.mu.length then some { s with mu := s.mu.set k p } else none
    | _ => none
abbrev Fn := List PV → List PV → Option (R (PV × Bool) × List PV)

/-! ### values -/
def SL : Nat := 16777216
def keyOf1 : PV → Option Key
  | .int i => some (.inl i)
  | .str s => some (.inr ⟨s.toArray⟩)
  | _ => none
def keyOfL : List PV → Option (List Key)
  | [] => some []
  | p :: r => match keyOf1 p, keyOfL r with
    | some k, some ks => some (k :: ks)
    | _, _ => none
def keyOf : PV → Option DKey
  | .int i => some (.inl (.inl i))
  | .str s => some (.inl (.inr ⟨s.toArray⟩))
  | .tup xs => (keyOfL xs).map .inr
  | _ => none
def pvK : Key → PV
  | .inl i => .int i
  | .inr s => .str s.cps.toList
def pvD : DKey → PV
  | .inl k => pvK k
  | .inr ks => .tup (ks.map pvK)
/-- the kind: a tuple? -/
def kindOf : DKey → Bool
  | .inl _ => false
  | .inr _ => true
def dget (kvs : List (DKey × PV)) (k : DKey) : Option PV := (kvs.find? fun e => decide (e.1 = k)).map (·.2)
def dput (kvs : List (DKey × PV)) (k : DKey) (v : PV) : List (DKey × PV) :=
  if kvs.any fun e => decide (e.1 = k) then kvs.map fun e => if e.1 = k then (e.1, v) else e else kvs ++ [(k, v)]
/-- a key of the kind, so many that one more may come -/
def dok (t : Bool) (kvs : List (DKey × PV)) (k : DKey) : Bool := (kindOf k == t) && decide (kvs.length < SL)
mutual
def isData : PV → Bool
  | .non | .bl _ | .int _ => true
  | .str s => s.all fun c => decide (c < 1114112)
  | .tup xs => isDataL xs
  | .lst xs => isDataL xs
  | _ => false
def isDataL : List PV → Bool
  | [] => true
  | x :: r => isData x && isDataL r
end
mutual
def depthP : PV → Nat
  | .tup xs => depthL xs + 1
  | .lst xs => depthL xs + 1
  | _ => 0
def depthL : List PV → Nat
  | [] => 0
  | x :: r => max (depthP x) (depthL r)
end
def b2n (b : Bool) : Int := if b then 1 else 0
mutual
def eqP : PV → PV → Bool
  | .non, .non => true
  | .bl a, .bl b => a == b
  | .bl a, .int j => b2n a == j
  | .int i, .bl b => i == b2n b
  | .int i, .int j => i == j
  | .str x, .str y => x == y
  | .tup xs, .tup ys => eqPs xs ys
  | .lst xs, .lst ys => eqPs xs ys
  | _, _ => false
def eqPs : List PV → List PV → Bool
  | [], [] => true
  | x :: xs, y :: ys => eqP x y && eqPs xs ys
  | _, _ => false
end
def flatP : PV → Bool
  | .non | .bl _ | .int _ | .str _ => true
  | _ => false
def truthy : PV → Option Bool
  | .non => some false
  | .bl b => some b
  | .int i => some (i != 0)
  | .str s => if s.length ≤ SL then some (!s.isEmpty) else none
  | .tup xs => some (!xs.isEmpty)
  | .lst xs => some (!xs.isEmpty)
  | .dic false kvs => some (!kvs.isEmpty)
  | _ => none
def cmulB (i j : Int) : Bool := decide (i.natAbs < 2 ^ 64) || decide (j.natAbs < 2 ^ 64)
def cpowB (i j : Int) : Bool := decide (0 ≤ j) && (decide (j ≤ 1000000) && decide (i.natAbs < 2 ^ 64))
def binI : Bop → Int → Int → Option Int
  | .add, i, j => some (i + j)
  | .sub, i, j => some (i - j)
  | .mul, i, j => if cmulB i j then some (i * j) else none
  | .fdiv, i, j => if 0 < j ∧ j.natAbs < 1073741824 then some (i / j) else none
  | .mod, i, j => if 0 < j then some (i % j) else none
  | .pow, i, j => if cpowB i j then some (i ^ j.toNat) else none
  | .shl, i, j => if cpowB i j then some (i * 2 ^ j.toNat) else none
  | .shr, i, j => if 0 ≤ j then some (i / 2 ^ j.toNat) else none
  | .band, i, j => some (Builtin.bitAnd i j)
  | .bor, i, j => some (Builtin.bitOr i j)
  | .bxor, i, j => some (Builtin.bitXor i j)
def rep {α : Type} (xs : List α) (n : Nat) : List α := (List.replicate n xs).flatten
/-- a op b: the value, whether it is new -/
def binP : Bop → PV → PV → Option (PV × Bool)
  | op, .int i, .int j => (binI op i j).map fun k => (.int k, false)
  | .add, .str a, .str b => if a.length + b.length ≤ SL then some (.str (a ++ b), false) else none
  | .add, .tup a, .tup b => if a.length + b.length ≤ SL then some (.tup (a ++ b), false) else none
  | .add, .lst a, .lst b => if a.length + b.length ≤ SL then some (.lst (a ++ b), true) else none
  | .mul, .str a, .int n => if a.length * n.toNat ≤ SL ∧ n.natAbs < 2 ^ 62 then some (.str (rep a n.toNat), false) else none
  | .mul, .lst a, .int n => if a.length * n.toNat ≤ SL ∧ n.natAbs < 2 ^ 62 then some (.lst (rep a n.toNat), true) else none
  | _, _, _ => none
def ltL : List Nat → List Nat → Bool
  | _, [] => false
  | [], _ :: _ => true
  | x :: xs, y :: ys => if x < y then true else if x = y then ltL xs ys else false
def cmpI : Cop → Int → Int → Option Bool
  | .lt, i, j => some (decide (i < j))
  | .le, i, j => some (decide (i ≤ j))
  | .gt, i, j => some (decide (j < i))
  | .ge, i, j => some (decide (j ≤ i))
  | _, _, _ => none
def cmpS : Cop → List Nat → List Nat → Option Bool
  | .lt, a, b => some (ltL a b)
  | .le, a, b => some (!ltL b a)
  | .gt, a, b => some (ltL b a)
  | .ge, a, b => some (!ltL a b)
  | _, _, _ => none
def dataOk (p : PV) : Bool := isData p && decide (depthP p ≤ 60)
def eqOk (a b : PV) : Bool := dataOk a && dataOk b
/-- plain values that == tells apart -/
def scalP : PV → PV → Bool
  | .non, .non | .non, .int _ | .int _, .non | .non, .bl _ | .bl _, .non | .non, .str _ | .str _, .non => true
  | .int _, .int _ | .bl _, .bl _ | .str _, .str _ => true
  | .int _, .str _ | .str _, .int _ | .bl _, .str _ | .str _, .bl _ => true
  | _, _ => false
def inP (x y : PV) : Option Bool := match y with
  | .tup ys => if flatP x && ys.all flatP then some (ys.any fun z => eqP z x) else none
  | .ktp ys => if flatP x && ys.all flatP then some (ys.any fun z => eqP z x) else none
  | .lst ys => if flatP x && ys.all flatP then some (ys.any fun z => eqP z x) else if eqOk x (.lst ys) then some (ys.any fun z => eqP z x) else none
  | .str s => match x with
    | .str [c] => some (decide (c ∈ s))
    | _ => none
  | .dic t kvs => (keyOf x).bind fun k => if kindOf k == t then some (dget kvs k).isSome else none
  | _ => none
def isP : PV → PV → Option Bool
  | x, .non => some (match x with | .non => true | _ => false)
  | .bl a, .bl b => some (a == b)
  | _, _ => none
def ordP (op : Cop) (a b : PV) : Option Bool := match a, b with
  | .int i, .int j => cmpI op i j
  | .str x, .str y => cmpS op x y
  | _, _ => none
def cmpP (op : Cop) (a b : PV) : Option Bool := match op with
  | .eq => if scalP a b || eqOk a b then some (eqP a b) else none
  | .ne => if scalP a b || eqOk a b then some (!eqP a b) else none
  | .is => isP a b
  | .isn => (isP a b).map (!·)
  | .in_ => inP a b
  | .nin => (inP a b).map (!·)
  | op => ordP op a b
def ixN' (n : Nat) (i : Int) : Option Nat := if 0 ≤ i then (if i < n then some i.toNat else none) else if -(n : Int) ≤ i then some (i + n).toNat else none
def idxP (a i : PV) : Option PV := match a, i with
  | .tup xs, .int k => (ixN' xs.length k).bind (xs[·]?)
  | .ktp xs, .int k => (ixN' xs.length k).bind (xs[·]?)
  | .lst xs, .int k => (ixN' xs.length k).bind (xs[·]?)
  | .str s, .int k => if s.length ≤ SL then (ixN' s.length k).bind fun j => (s[j]?).map fun c => .str [c] else none
  | .dic t kvs, k => (keyOf k).bind fun k => if kindOf k == t then dget kvs k else none
  | _, _ => none
/-- a slice's bound -/
def sIx' (n d : Nat) : Option Int → Nat
  | none => d
  | some i => if i < 0 then (i + n).toNat else min i.toNat n
def cut' {α : Type} (xs : List α) (lo hi : Option Int) : List α := (xs.drop (sIx' xs.length 0 lo)).take (sIx' xs.length xs.length hi - sIx' xs.length 0 lo)
def part : XE → PV → Option (Option Int)
  | .nop, _ => some none
  | _, .int i => some (some i)
  | _, _ => none
def slcP (a : PV) (lo hi : Option Int) : Option (PV × Bool) := match a with
  | .tup xs => some (.tup (cut' xs lo hi), false)
  | .lst xs => some (.lst (cut' xs lo hi), true)
  | .scr ns => some (.lst ((cut' ns lo hi).map .int), true)
  | .str s => if s.length ≤ SL then some (.str (cut' s lo hi), false) else none
  | _ => none
def intsOf : List PV → Option (List Int)
  | [] => some []
  | .int i :: r => (intsOf r).map (i :: ·)
  | _ => none
def strsOf : List PV → Option (List (List Nat))
  | [] => some []
  | .str i :: r => (strsOf r).map (i :: ·)
  | _ => none
def blsOf : List PV → Option (List Bool)
  | [] => some []
  | .bl i :: r => (blsOf r).map (i :: ·)
  | _ => none
def itemsOf : PV → Option (List PV)
  | .tup xs => some xs
  | .ktp xs => some xs
  | .lst xs => some xs
  | .str s => some (s.map fun c => .str [c])
  | .dic false kvs => some (kvs.map fun e => pvD e.1)
  | _ => none
def insI (x : Int) : List Int → List Int
  | [] => [x]
  | y :: r => if x ≤ y then x :: y :: r else y :: insI x r
def sortI : List Int → List Int
  | [] => []
  | x :: r => insI x (sortI r)
def insS (x : List Nat) : List (List Nat) → List (List Nat)
  | [] => [x]
  | y :: r => if ltL y x then y :: insS x r else x :: y :: r
def sortS : List (List Nat) → List (List Nat)
  | [] => []
  | x :: r => insS x (sortS r)
def dedup {α : Type} [DecidableEq α] : List α → List α
  | [] => []
  | x :: r => if x ∈ r then dedup r else x :: dedup r
def sortP (xs : List PV) : Option PV := match intsOf xs with
  | some is => some (.lst ((sortI is).map .int))
  | none => match strsOf xs with
    | some ss => some (.lst ((sortS ss).map .str))
    | none => none
def maxL : Int → List Int → Int
  | m, [] => m
  | m, x :: r => maxL (if m < x then x else m) r
def minL : Int → List Int → Int
  | m, [] => m
  | m, x :: r => minL (if x < m then x else m) r
def strI (i : Int) : List Nat := (Str.ofString (toString i)).cps.toList
def tyName : PV → String
  | .non => "NoneType" | .bl _ => "bool" | .int _ => "int" | .str _ => "str" | .tup _ => "tuple" | .lst _ => "list" | .dic _ _ => "dict" | .ins C _ => C | .ref _ => "" | .scr _ => "" | .ktp _ => ""
def isOf (p : PV) (c : String) : Bool := tyName p == c || (c == "int" && tyName p == "bool")
def rangeP (a b : Int) : List PV := (List.range (b - a).toNat).map fun i => PV.int (a + (i : Nat))
def rgB (a b : Int) : Bool := decide (a.natAbs < 2 ^ 62) && decide (b.natAbs < 2 ^ 62)
def primP (p : Prim) (vs : List PV) : Option (PV × Bool) := match p, vs with
  | .len, [.tup xs] => some (.int xs.length, false)
  | .len, [.ktp xs] => some (.int xs.length, false)
  | .len, [.lst xs] => some (.int xs.length, false)
  | .len, [.str s] => if s.length ≤ SL then some (.int s.length, false) else none
  | .len, [.dic _ kvs] => some (.int kvs.length, false)
  | .int, [.int i] => some (.int i, false)
  | .int, [.bl b] => some (.int (b2n b), false)
  | .int, [.str [c]] => if 48 ≤ c ∧ c ≤ 57 then some (.int (c - 48 : Nat), false) else none
  | .str, [.int i] => if i.natAbs.log2 < 1920 then some (.str (strI i), false) else none
  | .tuple, [.lst xs] => some (.tup xs, false)
  | .tuple, [.tup xs] => some (.tup xs, false)
  | .list, [.lst xs] => some (.lst xs, true)
  | .list, [.tup xs] => some (.lst xs, true)
  | .list, [.scr ns] => some (.lst (ns.map .int), true)
  | .list, [.dic false kvs] => some (.lst (kvs.map fun e => pvD e.1), true)
  | .sorted, [.lst xs] => (sortP xs).map fun v => (v, true)
  | .sorted, [.dic false kvs] => if kvs.length < 64 then (sortP (kvs.map fun e => pvD e.1)).map fun v => (v, true) else none
  | .all, [.lst xs] => (blsOf xs).map fun bs => (.bl (bs.all id), false)
  | .any, [.lst xs] => (blsOf xs).map fun bs => (.bl (bs.any id), false)
  | .sum, [.lst xs] => (intsOf xs).map fun is => (.int is.sum, false)
  | .max, [.int i, .int j] => some (.int (if j > i then j else i), false)
  | .min, [.int i, .int j] => some (.int (if j < i then j else i), false)
  | .max, [.lst xs] => (intsOf xs).bind fun is => match is with | [] => none | i :: r => some (.int (maxL i r), false)
  | .min, [.lst xs] => (intsOf xs).bind fun is => match is with | [] => none | i :: r => some (.int (minL i r), false)
  | .abs, [.int i] => some (.int (if i < 0 then -i else i), false)
  | .len, [.scr ns] => some (.int ns.length, false)
  | _, _ => none
/-- of one built-in kind -/
def sameK : PV → PV → Bool
  | .str _, .str _ => true
  | .lst _, .lst _ => true
  | .dic _ _, .dic _ _ => true
  | _, _ => false
def metK : Met → PV → Bool
  | .join, .str _ => true
  | .get, .dic _ _ => true
  | _, _ => false
def mutK : Mth → PV → Bool
  | .append, .lst _ => true
  | .extend, .lst _ => true
  | .pop, .lst _ => true
  | .reverse, .lst _ => true
  | .clear, .lst _ => true
  | .setdefault, .dic false _ => true
  | _, _ => false
/-- isinstance -/
def isinP (ds cs : List String) (v : PV) : Option Bool := match v with
  | .ref _ | .scr _ | .ktp _ | .dic true _ => none
  | .ins D _ => if D ∈ ds then some (cs.any fun c => D == c) else none
  | v => some (cs.any fun c => isOf v c)
def joinL (sep : List Nat) : List (List Nat) → List Nat
  | [] => []
  | [x] => x
  | x :: r => x ++ sep ++ joinL sep r
def metP (m : Met) (o : PV) (vs : List PV) : Option PV := match m, o, vs with
  | .join, .str s, [.lst xs] => (strsOf xs).bind fun ss => if (ss.map List.length).sum + ss.length * s.length ≤ SL then some (.str (joinL s ss)) else none
  | .get, .dic t kvs, [k, d] => (keyOf k).bind fun k => if kindOf k == t then some ((dget kvs k).getD d) else none
  | _, _, _ => none
/-- what stands there behind, what is returned -/
def mutP (m : Mth) (o : PV) (vs : List PV) : Option (PV × PV) := match m, o, vs with
  | .append, .lst xs, [y] => if xs.length < SL then some (.lst (xs ++ [y]), .non) else none
  | .extend, .lst xs, [.lst ys] => if xs.length + ys.length ≤ SL then some (.lst (xs ++ ys), .non) else none
  | .pop, .lst xs, [] => match xs[xs.length - 1]? with | some y => some (.lst xs.dropLast, y) | none => none
  | .pop, .lst xs, [.int i] => if SL < xs.length then none else (ixN' xs.length i).bind fun k => (xs[k]?).map fun y => (.lst (xs.eraseIdx k), y)
  | .reverse, .lst xs, [] => some (.lst xs.reverse, .non)
  | .clear, .lst _, [] => some (.lst [], .non)
  | .setdefault, .dic false kvs, [k, d] => match keyOf k with
    | some (.inl k) => if kvs.length < SL then (match dget kvs (.inl k) with | some v => some (.dic false kvs, v) | none => some (.dic false (kvs ++ [(.inl k, d)]), d)) else none
    | _ => none
  | _, _, _ => none
/-- o[i] = v -/
def setP (o i v : PV) : Option PV := match o with
  | .lst xs => match i with
    | .int k => (ixN' xs.length k).map fun j => .lst (xs.set j v)
    | _ => none
  | .dic t kvs => (keyOf i).bind fun k => if dok t kvs k then some (.dic t (dput kvs k v)) else none
  | _ => none
def fget (p : PV) (D : String) (f : String) : Option PV := match p with
  | .ins C fs => if C = D then (fs.find? fun e => e.1 == f).map (·.2) else none
  | _ => none
def putFP (f : String) (v : PV) : List (String × PV) → List (String × PV)
  | [] => [(f, v)]
  | (g, x) :: r => if g = f then (g, v) :: r else (g, x) :: putFP f v r
def fput (p : PV) (D : String) (f : String) (v : PV) : Option PV := match p with
  | .ins C fs => if C = D ∧ fs.length < 100 then some (.ins C (putFP f v fs)) else none
  | _ => none
def mkDic : List PV → Option (List (DKey × PV))
  | [] => some []
  | k :: v :: r => match keyOf k, mkDic r with
    | some (.inl k), some kvs => some ((.inl k, v) :: kvs)
    | _, _ => none
  | _ => none
def mergeD (kvs more : List (DKey × PV)) : List (DKey × PV) := more.foldl (fun acc e => dput acc e.1 e.2) kvs
def isCont : PV → Bool
  | .lst _ | .dic _ _ => true
  | _ => false

/-- name op= value -/
def augP : Bop → PV → PV → Option PV
  | .add, .int i, .int j => some (.int (i + j))
  | .sub, .int i, .int j => some (.int (i - j))
  | .add, .str a, .str b => if a.length + b.length ≤ SL then some (.str (a ++ b)) else none
  | _, _, _ => none

/-! ### state -/
mutual
def bindT : XT → PV → Sg → Option Sg
  | .name i, p, s => if i < s.env.length then some { s with env := s.env.set i (.val p) } else none
  | .tup ts, p, s => match p with
    | .tup xs => bindTs ts xs s
    | .lst xs => bindTs ts xs s
    | _ => none
def bindTs : XTs → List PV → Sg → Option Sg
  | .nil, xs, s => match xs with
    | [] => some s
    | _ => none
  | .cons t r, xs, s => match xs with
    | [] => none
    | x :: xs => match bindT t x s with
      | some s' => bindTs r xs s'
      | none => none
end
def wipeE (env : List Cell) : List Nat → List Cell
  | [] => env
  | i :: r => (wipeE env r).set i .non
/-- the own slots as they were -/
def backE (old new : List Cell) : List Nat → List Cell
  | [] => new
  | i :: r => (backE old new r).set i (old.getD i .non)
def noOwn (env : List Cell) (own : List Nat) : Bool := own.all fun i => match env[i]? with
  | some (.own _) => false
  | _ => true
def compL {α β : Type} (own : List Nat) (f : α → Sg → Rs (Option β)) : List α → List β → Sg → Rs (List β)
  | [], acc, s => rt acc s
  | x :: r, acc, s => if noOwn s.env own then
      match f x { s with env := wipeE s.env own } with
      | some (.ok (some y), s') => if acc.length < SL then compL own f r (acc ++ [y]) { s' with env := backE s.env s'.env own } else none
      | some (.ok none, s') => compL own f r acc { s' with env := backE s.env s'.env own }
      | _ => none
    else none
def compD {α : Type} (own : List Nat) (f : α → Sg → Rs (Option (PV × PV))) : List α → List (DKey × PV) → Sg → Rs (List (DKey × PV))
  | [], acc, s => rt acc s
  | x :: r, acc, s => if noOwn s.env own then
      match f x { s with env := wipeE s.env own } with
      | some (.ok (some y), s') => match keyOf y.1 with
        | some (.inl k) => if acc.length < SL then compD own f r (dput acc (.inl k) y.2) { s' with env := backE s.env s'.env own } else none
        | _ => none
      | some (.ok none, s') => compD own f r acc { s' with env := backE s.env s'.env own }
      | _ => none
    else none
inductive Fl where
  | nx | ret (v : PV) (own : Bool) | brk | ct
def forL (f : PV → Sg → Rs Fl) : List PV → Sg → Rs Fl
  | [], s => rt .nx s
  | x :: r, s => bd (f x s) fun fl s' => match fl with
    | .nx => forL f r s'
    | .ct => forL f r s'
    | .brk => rt .nx s'
    | .ret v o => rt (.ret v o) s'
def whlL (c : Sg → Rs Bool) (b : Sg → Rs Fl) : Nat → Sg → Rs Fl
  | 0, _ => none
  | n + 1, s => bd (c s) fun t s1 => match t with
    | false => rt .nx s1
    | true => bd (b s1) fun fl s' => match fl with
      | .nx => whlL c b n s'
      | .ct => whlL c b n s'
      | .brk => rt .nx s'
      | .ret v o => rt (.ret v o) s'
def fixN (B : Fn → Fn) : Nat → Fn
  | 0 => fun _ _ => none
  | n + 1 => B (fixN B n)
def fin (m : Rs Fl) : Option (R (PV × Bool) × List PV) := match m with
  | some (.ok .nx, s) => some (.ok (.non, false), s.mu)
  | some (.ok (.ret v o), s) => some (.ok (v, o), s.mu)
  | some (.exc c fs, s) => some (.exc c fs, s.mu)
  | _ => none
def entry (np ns : Nat) (args : List PV) : List Cell := args.map Cell.val ++ List.replicate (ns - np) Cell.non
/-- behind a call -/
def callR (f : Fn) (args : List PV) (s : Sg) : Rs (PV × Bool) := match f args s.mu with
  | some (.ok v, mu) => some (.ok v, { s with mu := mu })
  | some (.exc c fs, mu) => some (.exc c fs, { s with mu := mu })
  | none => none
/-- an __init__'s end: the instance -/
def selfOf (env : List Cell) : Option PV := match env with
  | .own p :: _ => some p
  | _ => none
def finI (m : Rs Fl) : Option (R PV × List PV) := match m with
  | some (.ok .nx, s) => (selfOf s.env).map fun p => (.ok p, s.mu)
  | some (.exc c fs, s) => some (.exc c fs, s.mu)
  | _ => none
def fz (m : Rs (PV × Bool)) : Rs PV := bd m fun a s => rt a.1 s
def evX (ok : Bool) (fs : List (String × PV)) : XX → Option PV
  | .cst v => if flatP v then some v else none
  | .fld f => if ok then (fs.find? fun e => e.1 == f).map (·.2) else none
  | .pair a b => match evX ok fs a, evX ok fs b with
    | some x, some y => some (.tup [x, y])
    | _, _ => none
  | .lst1 a => match evX ok fs a with
    | some x => some (.lst [x])
    | none => none
  | .lst2 a b => match evX ok fs a, evX ok fs b with
    | some x, some y => some (.lst [x, y])
    | _, _ => none
/-- the exception's name's slot is forgotten -/
def exLt (n : Nat) : Option Nat → Bool
  | none => true
  | some j => decide (j < n)
def wipeX (env : List Cell) : Option Nat → List Cell
  | none => env
  | some j => env.set j .non
def excIs (h c : String) : Bool := h == c || h == "SlipError" || h == "ValueError" || h == "Exception"

/-! ### the evaluator -/
def setB (s : Sg) (i : Nat) : Bool := match s.env[i]? with
  | some (.val _) => true
  | some (.own _) => true
  | _ => false
def plc (e : XE) (m : Rs (PV × Bool)) (s : Sg) : Rs Pl := match e with
  | .var i => if setB s i then rt (.sl i) s else none
  | _ => bd m fun a s => rt (.v a.1) s
def tst (e : XE) (m : Rs (PV × Bool)) (s : Sg) : Rs Bool := bd (plc e m s) fun p s => op1 (s.look p) fun v => op1 (truthy v) fun b => rt b s
mutual
/-- the value, whether its root is new and nobody's -/
def evR : XE → Fn → Sg → Rs (PV × Bool)
  | .nvr, _, _ => none
  | .var i, _, s => match s.env[i]? with
    | some (.val p) => rt (p, false) s
    | some (.own p) => if isCont p then rt (p, false) { s with env := s.env.set i (.val p) } else none
    | _ => none
  | .cst v, _, s => rt (v, false) s
  | .glb _ v, _, s => rt (v, false) s
  | .bin op a b, F, s => bd (plc a (evR a F s) s) fun p s => bd (plc b (evR b F s) s) fun q s =>
    op1 (s.look p) fun x => op1 (s.look q) fun y => op1 (binP op x y) fun r => rt r s
  | .neg a, F, s => bd (fz (evR a F s)) fun v s => match v with
    | .int i => rt (.int (-i), false) s
    | _ => none
  | .not a, F, s => bd (tst a (evR a F s) s) fun b s => rt (.bl (!b), false) s
  | .cmp op a b, F, s => bd (plc a (evR a F s) s) fun p s => bd (plc b (evR b F s) s) fun q s =>
    op1 (s.look p) fun x => op1 (s.look q) fun y => op1 (cmpP op x y) fun r => rt (.bl r, false) s
  | .cmp2 op op' a b c, F, s => bd (plc a (evR a F s) s) fun p s => bd (plc b (evR b F s) s) fun q s =>
    op1 (s.look p) fun x => op1 (s.look q) fun y => op1 (cmpP op x y) fun r => match r with
      | false => rt (.bl false, false) s
      | true => bd (plc c (evR c F s) s) fun z s => op1 (s.look q) fun y => op1 (s.look z) fun z => op1 (cmpP op' y z) fun r => rt (.bl r, false) s
  | .and a b, F, s => bd (fz (evR a F s)) fun v s => op1 (truthy v) fun t => match t with
    | true => bd (fz (evR b F s)) fun v s => rt (v, false) s
    | false => rt (v, false) s
  | .or a b, F, s => bd (fz (evR a F s)) fun v s => op1 (truthy v) fun t => match t with
    | false => bd (fz (evR b F s)) fun v s => rt (v, false) s
    | true => rt (v, false) s
  | .tand a b, F, s => bd (tst a (evR a F s) s) fun t s => match t with
    | true => bd (tst b (evR b F s) s) fun t s => rt (.bl t, false) s
    | false => rt (.bl false, false) s
  | .tor a b, F, s => bd (tst a (evR a F s) s) fun t s => match t with
    | true => rt (.bl true, false) s
    | false => bd (tst b (evR b F s) s) fun t s => rt (.bl t, false) s
  | .ite c a b, F, s => bd (tst c (evR c F s) s) fun t s => match t with
    | true => bd (fz (evR a F s)) fun v s => rt (v, false) s
    | false => bd (fz (evR b F s)) fun v s => rt (v, false) s
  | .lst es, F, s => bd (evA es F s) fun vs s => if vs.length ≤ SL then rt (.lst vs, true) s else none
  | .tup es, F, s => bd (evA es F s) fun vs s => if vs.length ≤ SL then rt (.tup vs, false) s else none
  | .dic es, F, s => bd (evA es F s) fun vs s => op1 (mkDic vs) fun kvs => if kvs.length ≤ 15 then rt (.dic false (mergeD [] kvs), true) s else none
  | .dnew t, _, s => rt (.dic t [], true) s
  | .nref e, F, s => bd (evR e F s) fun v s => if v.2 && isCont v.1 then rt (.ref s.mu.length, false) { s with mu := s.mu ++ [v.1] } else none
  | .idx a i, F, s => bd (plc a (evR a F s) s) fun p s => bd (fz (evR i F s)) fun k s => op1 (s.look p) fun x => op1 (idxP x k) fun v => rt (v, false) s
  | .slc a lo hi, F, s => bd (plc a (evR a F s) s) fun p s => bd (fz (evR lo F s)) fun l s => op1 (part lo l) fun l => bd (fz (evR hi F s)) fun h s => op1 (part hi h) fun h =>
    op1 (s.look p) fun x => op1 (slcP x l h) fun r => rt r s
  | .nop, _, s => rt (.non, false) s
  | .rev a, F, s => bd (plc a (evR a F s) s) fun p s => op1 (s.look p) fun x => match x with
    | .lst xs => rt (.lst xs.reverse, true) s
    | _ => none
  | .call f es, F, s => bd (evA es F s) fun vs s => callR (evF f) vs s
  | .self es, F, s => bd (evA es F s) fun vs s => callR F vs s
  | .prm p es, F, s => bd (evL es F s) fun ps s => op1 (s.lookL ps) fun vs => op1 (primP p vs) fun r => rt r s
  | .isin a ds cs, F, s => bd (plc a (evR a F s) s) fun p s => op1 (s.look p) fun x => op1 (isinP ds cs x) fun b => rt (.bl b, false) s
  | .met m o es, F, s => bd (plc o (evR o F s) s) fun p s => op1 (s.look p) fun z => if metK m z then (match m with
    | .join => bd (evL es F s) fun ps s => op1 (s.look p) fun x => op1 (s.lookL ps) fun vs => if sameK z x then op1 (metP .join x vs) fun v => rt (v, false) s else none
    | m => bd (evA es F s) fun vs s => op1 (s.look p) fun x => if sameK z x then op1 (metP m x vs) fun v => rt (v, false) s else none) else none
  | .mut m o es, F, s => bd (plc o (evR o F s) s) fun p s => op1 (s.look p) fun z => if mutK m z then (match m with
    | .extend => bd (evL es F s) fun ps s => op1 (s.look p) fun x => op1 (s.lookL ps) fun vs => if sameK z x then op1 (mutP .extend x vs) fun r => op1 (s.put p r.1) fun s => rt (r.2, false) s else none
    | m => bd (evA es F s) fun vs s => op1 (s.look p) fun x => if sameK z x then op1 (mutP m x vs) fun r => op1 (s.put p r.1) fun s => rt (r.2, false) s else none) else none
  | .comp own t it c e, F, s => bd (evI it F s) fun xs s => bd (compL own (fun x s => op1 (bindT t x s) fun s => bd (tst c (evR c F s) s) fun b s => match b with
      | true => bd (fz (evR e F s)) fun v s => rt (some v) s
      | false => rt none s) xs [] s) fun ys s => rt (.lst ys, true) s
  | .dcomp own t it c k e, F, s => bd (evI it F s) fun xs s => bd (compD own (fun x s => op1 (bindT t x s) fun s => bd (tst c (evR c F s) s) fun b s => match b with
      | true => bd (fz (evR k F s)) fun kv s => bd (fz (evR e F s)) fun v s => rt (some (kv, v)) s
      | false => rt none s) xs [] s) fun kvs s => rt (.dic false kvs, true) s
  | .fld a C f, F, s => bd (plc a (evR a F s) s) fun p s => op1 (s.look p) fun x => op1 (fget x C f) fun v => rt (v, false) s
  | .make C f es, F, s => bd (evA es F s) fun vs s => match evF f (.ref s.mu.length :: vs) (s.mu ++ [.ins C []]) with
    | some (.ok (.non, _), mu) => rt (.ref s.mu.length, false) { s with mu := mu }
    | some (.exc c fs, mu) => some (.exc c fs, { s with mu := mu })
    | _ => none
/-- values -/
def evA : XEs → Fn → Sg → Rs (List PV)
  | .nil, _, s => rt [] s
  | .cons e r, F, s => bd (fz (evR e F s)) fun v s => bd (evA r F s) fun vs s => rt (v :: vs) s
/-- places -/
def evL : XEs → Fn → Sg → Rs (List Pl)
  | .nil, _, s => rt [] s
  | .cons e r, F, s => bd (plc e (evR e F s) s) fun v s => bd (evL r F s) fun vs s => rt (v :: vs) s
/-- what is walked -/
def evI : XI → Fn → Sg → Rs (List PV)
  | .val e, F, s => bd (fz (evR e F s)) fun v s => op1 (itemsOf v) fun xs => rt xs s
  | .rng1 a, F, s => bd (fz (evR a F s)) fun v s => match v with
    | .int j => if rgB 0 j then rt (rangeP 0 j) s else none
    | _ => none
  | .rng2 a b, F, s => bd (fz (evR a F s)) fun v s => bd (fz (evR b F s)) fun w s => match v, w with
    | .int i, .int j => if rgB i j then rt (rangeP i j) s else none
    | _, _ => none
  | .enum e, F, s => bd (fz (evR e F s)) fun v s => match v with
    | .lst xs => rt (xs.zipIdx.map fun p => .tup [.int (p.2 : Nat), p.1]) s
    | .tup xs => rt (xs.zipIdx.map fun p => .tup [.int (p.2 : Nat), p.1]) s
    | .str xs => rt (xs.zipIdx.map fun p => .tup [.int (p.2 : Nat), .str [p.1]]) s
    | _ => none
  | .zip a b, F, s => bd (fz (evR a F s)) fun v s => bd (fz (evR b F s)) fun w s => match v, w with
    | .lst xs, .lst ys => rt ((xs.zip ys).map fun p => .tup [p.1, p.2]) s
    | .tup xs, .tup ys => rt ((xs.zip ys).map fun p => .tup [p.1, p.2]) s
    | .ktp xs, .tup ys => rt ((xs.zip ys).map fun p => .tup [p.1, p.2]) s
    | .str xs, .str ys => rt ((xs.zip ys).map fun p => .tup [.str [p.1], .str [p.2]]) s
    | _, _ => none
  | .items e, F, s => bd (fz (evR e F s)) fun v s => match v with
    | .dic false kvs => rt (kvs.map fun p => .tup [pvD p.1, p.2]) s
    | _ => none
  | .values e, F, s => bd (fz (evR e F s)) fun v s => match v with
    | .dic false kvs => rt (kvs.map fun p => p.2) s
    | _ => none
def evS : XS → Fn → Sg → Rs Fl
  | .nvr, _, _ => none
  | .asg t e, F, s => match t with
    | .name i => bd (evR e F s) fun v s => if i < s.env.length then rt .nx { s with env := s.env.set i (if v.2 && isCont v.1 then .own v.1 else .val v.1) } else none
    | t => bd (fz (evR e F s)) fun v s => op1 (bindT t v s) fun s => rt .nx s
  | .setI o i e, F, s => bd (fz (evR e F s)) fun v s => bd (plc o (evR o F s) s) fun p s => bd (fz (evR i F s)) fun k s =>
    op1 (s.look p) fun x => op1 (setP x k v) fun y => op1 (s.put p y) fun s => rt .nx s
  | .setF o C f e, F, s => bd (fz (evR e F s)) fun v s => bd (plc o (evR o F s) s) fun p s => op1 (s.look p) fun x => op1 (fput x C f v) fun y => op1 (s.put p y) fun s => rt .nx s
  | .aug i op e, F, s => match s.env[i]? with
    | some (.val p) => bd (fz (evR e F s)) fun w s => op1 (augP op p w) fun r => if i < s.env.length then rt .nx { s with env := s.env.set i (.val r) } else none
    | _ => none
  | .expr e, F, s => bd (fz (evR e F s)) fun _ s => rt .nx s
  | .ifs c a b, F, s => bd (tst c (evR c F s) s) fun t s => match t with
    | true => evSs a F s
    | false => evSs b F s
  | .for_ t it body, F, s => bd (evI it F s) fun xs s => forL (fun x s => op1 (bindT t x s) fun s => evSs body F s) xs s
  | .whl n c body, F, s => whlL (fun s => tst c (evR c F s) s) (fun s => evSs body F s) n s
  | .ret e, F, s => match e with
    | .var i => (match s.env[i]? with
      | some (.val p) => rt (.ret p false) s
      | some (.own p) => if isCont p then rt (.ret p true) { s with env := s.env.set i .non } else none
      | _ => none)
    | e => bd (evR e F s) fun v s => rt (.ret v.1 (v.2 && isCont v.1)) s
  | .retN, _, s => rt (.ret .non false) s
  | .brk, _, s => rt .brk s
  | .cont, _, s => rt .ct s
  | .pass, _, s => rt .nx s
  | .raise c ns es, F, s => bd (evA es F s) fun vs s => if vs.length = ns.length then some (.exc c (ns.zip vs).reverse, s) else none
  | .try_ es body hs, F, s => match evSs body F s with
    | some (.exc c fs, s) => if c ∈ es then evH hs c fs s else none
    | r => r
def evH : XHs → String → List (String × PV) → Sg → Rs Fl
  | .nil, c, fs, s => some (.exc c fs, s)
  | .cons h ex i px r, c, fs, s => if excIs h c then op1 (evX (ex.isSome && h == c) fs px) fun v => if i < s.env.length ∧ exLt s.env.length ex = true then rt .nx { s with env := (wipeX s.env ex).set i (.val v) } else none
    else evH r c fs s
def evSs : XSs → Fn → Sg → Rs Fl
  | .nil, _, s => rt .nx s
  | .cons a r, F, s => bd (evS a F s) fun fl s => match fl with
    | .nx => evSs r F s
    | fl => rt fl s
def evF : XF → Fn
  | .mk _ np ns n body => fixN (fun F args mu => if args.length = np then fin (evSs body F ⟨entry np ns args, mu⟩) else none) n
end
end Lk

namespace Lk
open PySem L2

structure Wd where
  F : Hp
  inj : List Addr
def Wd.le (W W' : Wd) : Prop := (∀ a o, W.F a = some o → W'.F a = some o) ∧ ∃ l, W'.inj = W.inj ++ l
theorem Wd.le.refl (W : Wd) : W.le W := ⟨fun _ _ h => h, [], by simp⟩
theorem Wd.le.trans {W W1 W2 : Wd} (h : W.le W1) (h' : W1.le W2) : W.le W2 := by
  obtain ⟨a, l, e⟩ := h
  obtain ⟨b, l', e'⟩ := h'
  exact ⟨fun x o q => b x o (a x o q), l ++ l', by rw [e', e, List.append_assoc]⟩

section
variable (K : PySem.W.Frag) (cl : String → Option Addr) (W : Wd)
mutual
def Rep : PV → V → Prop
  | .non, v => v = .non
  | .bl b, v => v = .bl b
  | .int i, v => v = .int i
  | .str s, v => v = .str ⟨s.toArray⟩
  | .tup ps, v => ∃ a xs, v = .ref a ∧ W.F a = some (.tup xs) ∧ RepL ps xs
  | .lst ps, v => ∃ a xs, v = .ref a ∧ W.F a = some (.lst xs) ∧ RepL ps xs
  | .dic false kvs, v => ∃ a o l, v = .ref a ∧ W.F a = some (.frz o (.dK l)) ∧ RepK kvs l
  | .dic true kvs, v => ∃ a o l, v = .ref a ∧ W.F a = some (.frz o (.dT l)) ∧ RepT kvs l
  | .ins C fs, v => ∃ a c dx l, v = .ref a ∧ W.F a = some (.ins c dx l) ∧ W.F dx = some (.own a) ∧ cl C = some c ∧ RepF fs l
  | .ref k, v => ∃ a, v = .ref a ∧ W.inj[k]? = some a
  | .scr ns, v => ∃ a, v = .ref a ∧ SqL K W.F a (ns.map V.int)
  | .ktp ps, v => ∃ a xs, v = .ref a ∧ SqT K W.F a xs ∧ RepL ps xs
def RepL : List PV → List V → Prop
  | [], l => l = []
  | p :: r, l => ∃ x t, l = x :: t ∧ Rep p x ∧ RepL r t
def RepK : List (DKey × PV) → List (Key × V) → Prop
  | [], l => l = []
  | (k, p) :: r, l => ∃ k' x t, l = (k', x) :: t ∧ k = .inl k' ∧ Rep p x ∧ RepK r t
def RepT : List (DKey × PV) → List (List Key × V) → Prop
  | [], l => l = []
  | (k, p) :: r, l => ∃ k' x t, l = (k', x) :: t ∧ k = .inr k' ∧ Rep p x ∧ RepT r t
def RepF : List (String × PV) → List (Str × V) → Prop
  | [], l => l = []
  | (k, p) :: r, l => ∃ x t, l = ((k : Str), x) :: t ∧ Rep p x ∧ RepF r t
end
/-- what stands at an object -/
def ObjP (o : HO) : PV → Prop
  | .tup ps => ∃ xs, o = .tup xs ∧ RepL K cl W ps xs
  | .lst ps => ∃ xs, o = .lst xs ∧ RepL K cl W ps xs
  | .dic false kvs => ∃ l, o = .dK l ∧ RepK K cl W kvs l
  | .dic true kvs => ∃ l, o = .dT l ∧ RepT K cl W kvs l
  | _ => False
/-- the container at an address, unlocked -/
def At (H : Hp) (a : Addr) : PV → Prop
  | .lst ps => ∃ xs, H a = some (.lst xs) ∧ RepL K cl W ps xs
  | .dic false kvs => ∃ l, H a = some (.dK l) ∧ RepK K cl W kvs l
  | .dic true kvs => ∃ l, H a = some (.dT l) ∧ RepT K cl W kvs l
  | .ins C fs => ∃ c dx l, H a = some (.ins c dx l) ∧ H dx = some (.own a) ∧ cl C = some c ∧ RepF K cl W fs l
  | _ => False
/-- a value whose root is read in H -/
def RH (H : Hp) (v : V) : PV → Prop
  | .lst ps => ∃ a xs, v = .ref a ∧ H a = some (.lst xs) ∧ RepL K cl W ps xs
  | .dic false kvs => ∃ a l, v = .ref a ∧ Rd H a (.dK l) ∧ RepK K cl W kvs l
  | .dic true kvs => ∃ a l, v = .ref a ∧ Rd H a (.dT l) ∧ RepT K cl W kvs l
  | .ins C fs => ∃ a c dx l, v = .ref a ∧ H a = some (.ins c dx l) ∧ H dx = some (.own a) ∧ cl C = some c ∧ RepF K cl W fs l
  | .ref _ => False
  | p => Rep K cl W p v
/-- a result: something that stands, or a new object -/
def New (H H' : Hp) (v : V) (r : PV × Bool) : Prop := (r.2 = false ∧ H' = H ∧ Rep K cl W r.1 v) ∨
  ∃ a o, v = .ref a ∧ H a = none ∧ H' = upd H a o ∧ ObjP K cl W o r.1 ∧ ((r.2 = true ∧ isCont r.1 = true) ∨ (r.2 = false ∧ isCont r.1 = false))
end

section
variable {K : PySem.W.Frag} {cl : String → Option Addr} {W W' : Wd}
theorem rd_mono {F F' : Hp} (h : ∀ a o, F a = some o → F' a = some o) {a : Addr} {u : HO} (r : Rd F a u) : Rd F' a u := by
  rcases r with r | ⟨o, r⟩
  · exact .inl (h _ _ r)
  · exact .inr ⟨o, h _ _ r⟩
theorem sqt_mono {F F' : Hp} (h : ∀ a o, F a = some o → F' a = some o) {a : Addr} {xs : List V} (r : SqT K F a xs) : SqT K F' a xs := by
  rcases r with r | r
  · exact .inl (rd_mono h r)
  · exact .inr r
theorem sql_mono {F F' : Hp} (h : ∀ a o, F a = some o → F' a = some o) {a : Addr} {xs : List V} (r : SqL K F a xs) : SqL K F' a xs := by
  rcases r with r | r
  · exact .inl (rd_mono h r)
  · exact .inr r
mutual
theorem Rep.mono (h : W.le W') : ∀ (p : PV) (v : V), Rep K cl W p v → Rep K cl W' p v
  | .non, v, q => by unfold Rep at *; exact q
  | .bl _, v, q => by unfold Rep at *; exact q
  | .int _, v, q => by unfold Rep at *; exact q
  | .str _, v, q => by unfold Rep at *; exact q
  | .tup ps, v, q => by
    unfold Rep at *
    obtain ⟨a, xs, e, s, r⟩ := q
    exact ⟨a, xs, e, h.1 _ _ s, RepL.mono h ps xs r⟩
  | .lst ps, v, q => by
    unfold Rep at *
    obtain ⟨a, xs, e, s, r⟩ := q
    exact ⟨a, xs, e, h.1 _ _ s, RepL.mono h ps xs r⟩
  | .scr ns, v, q => by
    unfold Rep at *
    obtain ⟨a, e, s⟩ := q
    exact ⟨a, e, sql_mono h.1 s⟩
  | .ktp ps, v, q => by
    unfold Rep at *
    obtain ⟨a, xs, e, s, r⟩ := q
    exact ⟨a, xs, e, sqt_mono h.1 s, RepL.mono h ps xs r⟩
  | .dic false kvs, v, q => by
    unfold Rep at *
    obtain ⟨a, o, l, e, q, r⟩ := q
    exact ⟨a, o, l, e, h.1 _ _ q, RepK.mono h kvs l r⟩
  | .dic true kvs, v, q => by
    unfold Rep at *
    obtain ⟨a, o, l, e, q, r⟩ := q
    exact ⟨a, o, l, e, h.1 _ _ q, RepT.mono h kvs l r⟩
  | .ins C fs, v, q => by
    unfold Rep at *
    obtain ⟨a, c, dx, l, e, q1, q2, q3, r⟩ := q
    exact ⟨a, c, dx, l, e, h.1 _ _ q1, h.1 _ _ q2, q3, RepF.mono h fs l r⟩
  | .ref k, v, q => by
    unfold Rep at *
    obtain ⟨a, e, q⟩ := q
    obtain ⟨_, l, el⟩ := h
    have hk : k < W.inj.length := (List.getElem?_eq_some_iff.mp q).1
    exact ⟨a, e, by rw [el, List.getElem?_append_left hk]; exact q⟩
theorem RepL.mono (h : W.le W') : ∀ (p : List PV) (v : List V), RepL K cl W p v → RepL K cl W' p v
  | [], v, q => by unfold RepL at *; exact q
  | p :: r, v, q => by
    unfold RepL at *
    obtain ⟨x, t, e, q1, q2⟩ := q
    exact ⟨x, t, e, Rep.mono h p x q1, RepL.mono h r t q2⟩
theorem RepK.mono (h : W.le W') : ∀ (p : List (DKey × PV)) (v : List (Key × V)), RepK K cl W p v → RepK K cl W' p v
  | [], v, q => by unfold RepK at *; exact q
  | (k, p) :: r, v, q => by
    unfold RepK at *
    obtain ⟨k', x, t, e, e2, q1, q2⟩ := q
    exact ⟨k', x, t, e, e2, Rep.mono h p x q1, RepK.mono h r t q2⟩
theorem RepT.mono (h : W.le W') : ∀ (p : List (DKey × PV)) (v : List (List Key × V)), RepT K cl W p v → RepT K cl W' p v
  | [], v, q => by unfold RepT at *; exact q
  | (k, p) :: r, v, q => by
    unfold RepT at *
    obtain ⟨k', x, t, e, e2, q1, q2⟩ := q
    exact ⟨k', x, t, e, e2, Rep.mono h p x q1, RepT.mono h r t q2⟩
theorem RepF.mono (h : W.le W') : ∀ (p : List (String × PV)) (v : List (Str × V)), RepF K cl W p v → RepF K cl W' p v
  | [], v, q => by unfold RepF at *; exact q
  | (k, p) :: r, v, q => by
    unfold RepF at *
    obtain ⟨x, t, e, q1, q2⟩ := q
    exact ⟨x, t, e, Rep.mono h p x q1, RepF.mono h r t q2⟩
end
theorem RepL.paired : ∀ {ps : List PV} {xs : List V}, RepL K cl W ps xs → Paired (fun p x => Rep K cl W p x) ps xs
  | [], xs, q => by unfold RepL at q; subst q; exact .nil
  | p :: r, xs, q => by
    unfold RepL at q
    obtain ⟨x, t, e, q1, q2⟩ := q
    subst e
    exact .cons q1 (RepL.paired q2)
theorem RepL.of : ∀ {ps : List PV} {xs : List V}, Paired (fun p x => Rep K cl W p x) ps xs → RepL K cl W ps xs
  | _, _, .nil => by unfold RepL; rfl
  | _, _, .cons a b => by
    unfold RepL
    exact ⟨_, _, rfl, a, RepL.of b⟩
theorem RepL.nil : RepL K cl W [] [] := by unfold RepL; rfl
theorem RepL.cons {p : PV} {x : V} {ps : List PV} {xs : List V} (a : Rep K cl W p x) (b : RepL K cl W ps xs) : RepL K cl W (p :: ps) (x :: xs) := by
  unfold RepL; exact ⟨x, xs, rfl, a, b⟩
theorem RepL.length {ps : List PV} {xs : List V} (h : RepL K cl W ps xs) : ps.length = xs.length := Paired.length h.paired
theorem RepL.append : ∀ {ps qs : List PV} {xs ys : List V}, RepL K cl W ps xs → RepL K cl W qs ys → RepL K cl W (ps ++ qs) (xs ++ ys)
  | [], _, _, _, a, b => by unfold RepL at a; subst a; exact b
  | p :: ps, _, _, _, a, b => by
    unfold RepL at a
    obtain ⟨x, t, e, q1, q2⟩ := a
    subst e
    exact .cons q1 (q2.append b)
theorem RepL.get : ∀ {ps : List PV} {xs : List V} {i : Nat} {p : PV}, RepL K cl W ps xs → ps[i]? = some p → ∃ x, xs[i]? = some x ∧ Rep K cl W p x
  | [], _, _, _, _, e => by simp at e
  | q :: ps, xs, i, p, h, e => by
    unfold RepL at h
    obtain ⟨x, t, e', q1, q2⟩ := h
    subst e'
    cases i with
    | zero => simp at e; subst e; exact ⟨x, rfl, q1⟩
    | succ i =>
      obtain ⟨y, h1, h2⟩ := q2.get (i := i) (by simpa using e)
      exact ⟨y, by simpa using h1, h2⟩
theorem RepL.take : ∀ {ps : List PV} {xs : List V} (n : Nat), RepL K cl W ps xs → RepL K cl W (ps.take n) (xs.take n)
  | _, _, 0, _ => by simp; exact .nil
  | [], _, n + 1, h => by unfold RepL at h; subst h; simp; exact .nil
  | p :: ps, _, n + 1, h => by
    unfold RepL at h
    obtain ⟨x, t, e', q1, q2⟩ := h
    subst e'
    simp only [List.take_succ_cons]
    exact .cons q1 (q2.take n)
theorem RepL.drop : ∀ {ps : List PV} {xs : List V} (n : Nat), RepL K cl W ps xs → RepL K cl W (ps.drop n) (xs.drop n)
  | _, _, 0, h => h
  | [], _, n + 1, h => by unfold RepL at h; subst h; simp; exact .nil
  | p :: ps, _, n + 1, h => by
    unfold RepL at h
    obtain ⟨x, t, e', q1, q2⟩ := h
    subst e'
    simp only [List.drop_succ_cons]
    exact q2.drop n
theorem RepL.set {q : PV} {y : V} (hy : Rep K cl W q y) : ∀ {ps : List PV} {xs : List V} (i : Nat), RepL K cl W ps xs → RepL K cl W (ps.set i q) (xs.set i y)
  | [], _, i, h => by unfold RepL at h; subst h; simp; exact .nil
  | p :: ps, _, i, h => by
    unfold RepL at h
    obtain ⟨x, t, e', q1, q2⟩ := h
    subst e'
    cases i with
    | zero => simp only [List.set_cons_zero]; exact .cons hy q2
    | succ i => simp only [List.set_cons_succ]; exact .cons q1 (q2.set hy i)
theorem RepL.eraseIdx : ∀ {ps : List PV} {xs : List V} (i : Nat), RepL K cl W ps xs → RepL K cl W (ps.eraseIdx i) (xs.eraseIdx i)
  | [], _, i, h => by unfold RepL at h; subst h; simp; exact .nil
  | p :: ps, _, i, h => by
    unfold RepL at h
    obtain ⟨x, t, e', q1, q2⟩ := h
    subst e'
    cases i with
    | zero => simpa using q2
    | succ i => simp only [List.eraseIdx_cons_succ]; exact .cons q1 (q2.eraseIdx i)
theorem RepL.reverse : ∀ {ps : List PV} {xs : List V}, RepL K cl W ps xs → RepL K cl W ps.reverse xs.reverse
  | [], _, h => by unfold RepL at h; subst h; simp; exact .nil
  | p :: ps, _, h => by
    unfold RepL at h
    obtain ⟨x, t, e', q1, q2⟩ := h
    subst e'
    simp only [List.reverse_cons]
    exact q2.reverse.append (.cons q1 .nil)
theorem RepL.dropLast {ps : List PV} {xs : List V} (h : RepL K cl W ps xs) : RepL K cl W ps.dropLast xs.dropLast := by
  rw [List.dropLast_eq_take, List.dropLast_eq_take, h.length]
  exact h.take _
theorem RepL.rep {ps : List PV} {xs : List V} (h : RepL K cl W ps xs) : ∀ n : Nat, RepL K cl W (List.replicate n ps).flatten (List.replicate n xs).flatten
  | 0 => by simp; exact .nil
  | n + 1 => by
    simp only [List.replicate_succ, List.flatten_cons]
    exact h.append (h.rep n)
theorem RepL.strs : ∀ {ps : List PV} {ss : List (List Nat)} {xs : List V}, strsOf ps = some ss → RepL K cl W ps xs → xs = ss.map fun s => V.str ⟨s.toArray⟩
  | [], ss, xs, e, h => by unfold RepL at h; simp [strsOf] at e; subst e h; rfl
  | p :: ps, ss, xs, e, h => by
    unfold RepL at h
    obtain ⟨x, t, e', q1, q2⟩ := h
    subst e'
    cases p <;> simp [strsOf] at e
    obtain ⟨ss', e1, e2⟩ := e
    subst e2
    unfold Rep at q1
    subst q1
    rw [q2.strs e1]
    rfl
theorem RepL.ints : ∀ {ps : List PV} {ss : List Int} {xs : List V}, intsOf ps = some ss → RepL K cl W ps xs → xs = ss.map V.int
  | [], ss, xs, e, h => by unfold RepL at h; simp [intsOf] at e; subst e h; rfl
  | p :: ps, ss, xs, e, h => by
    unfold RepL at h
    obtain ⟨x, t, e', q1, q2⟩ := h
    subst e'
    cases p <;> simp [intsOf] at e
    obtain ⟨ss', e1, e2⟩ := e
    subst e2
    unfold Rep at q1
    subst q1
    rw [q2.ints e1]
    rfl
theorem RepL.bls : ∀ {ps : List PV} {ss : List Bool} {xs : List V}, blsOf ps = some ss → RepL K cl W ps xs → xs = ss.map V.bl
  | [], ss, xs, e, h => by unfold RepL at h; simp [blsOf] at e; subst e h; rfl
  | p :: ps, ss, xs, e, h => by
    unfold RepL at h
    obtain ⟨x, t, e', q1, q2⟩ := h
    subst e'
    cases p <;> simp [blsOf] at e
    obtain ⟨ss', e1, e2⟩ := e
    subst e2
    unfold Rep at q1
    subst q1
    rw [q2.bls e1]
    rfl
theorem RepL.of_strs : ∀ {ss : List (List Nat)}, RepL K cl W (ss.map .str) (ss.map fun s => V.str ⟨s.toArray⟩)
  | [] => .nil
  | s :: r => .cons (by unfold Rep; rfl) RepL.of_strs
theorem RepL.of_ints : ∀ {ss : List Int}, RepL K cl W (ss.map .int) (ss.map V.int)
  | [] => .nil
  | s :: r => .cons (by unfold Rep; rfl) RepL.of_ints
/-! data, for == -/
mutual
def toD : PV → PyData
  | .non => .none
  | .bl b => .bool b
  | .int i => .int i
  | .str s => .str ⟨s.toArray⟩
  | .tup xs => .tuple (toDs xs)
  | .lst xs => .list (toDs xs)
  | _ => .none
def toDs : List PV → List PyData
  | [] => []
  | x :: r => toD x :: toDs r
end
mutual
theorem rep_dp {H : Hp} (hs : ∀ a o, W.F a = some o → H a = some o) : ∀ (p : PV) (v : V), isData p = true → Rep K cl W p v → Dp K H v (toD p)
  | .non, v, _, q => by unfold Rep at q; subst q; unfold toD; exact .non
  | .bl _, v, _, q => by unfold Rep at q; subst q; unfold toD; exact .bl _
  | .int _, v, _, q => by unfold Rep at q; subst q; unfold toD; exact .int _
  | .str _, v, _, q => by unfold Rep at q; subst q; unfold toD; exact .str _
  | .tup ps, v, d, q => by
    unfold Rep at q
    obtain ⟨a, xs, e, s, r⟩ := q
    subst e
    unfold toD
    exact .tup (.of (hs _ _ s)) (rep_dps hs ps xs (by simpa [isData] using d) r)
  | .lst ps, v, d, q => by
    unfold Rep at q
    obtain ⟨a, xs, e, s, r⟩ := q
    subst e
    unfold toD
    exact .lst (.of (hs _ _ s)) (rep_dps hs ps xs (by simpa [isData] using d) r)
  | .dic _ _, _, d, _ => by simp [isData] at d
  | .ins _ _, _, d, _ => by simp [isData] at d
  | .ref _, _, d, _ => by simp [isData] at d
  | .scr _, _, d, _ => by simp [isData] at d
  | .ktp _, _, d, _ => by simp [isData] at d
theorem rep_dps {H : Hp} (hs : ∀ a o, W.F a = some o → H a = some o) : ∀ (p : List PV) (v : List V), isDataL p = true → RepL K cl W p v → DpAll K H v (toDs p)
  | [], v, _, q => by unfold RepL at q; subst q; unfold toDs; exact .nil
  | p :: r, v, d, q => by
    unfold RepL at q
    obtain ⟨x, t, e, q1, q2⟩ := q
    subst e
    unfold toDs
    simp [isDataL] at d
    exact .cons (rep_dp hs p x d.1 q1) (rep_dps hs r t d.2 q2)
end
theorem rh_dp {H : Hp} (hs : ∀ a o, W.F a = some o → H a = some o) {p : PV} {v : V} (d : isData p = true) (q : RH K cl W H v p) : Dp K H v (toD p) := by
  cases p with
  | tup ps => exact rep_dp hs _ _ d (show Rep K cl W (.tup ps) v from q)
  | lst ps =>
    obtain ⟨a, xs, e, s, r⟩ := q
    subst e
    unfold toD
    exact .lst (.of s) (rep_dps hs ps xs (by simpa [isData] using d) r)
  | dic _ _ => simp [isData] at d
  | ins _ _ => simp [isData] at d
  | ref _ => simp [isData] at d
  | scr _ => simp [isData] at d
  | ktp _ => simp [isData] at d
  | non => exact rep_dp hs _ _ d (show Rep K cl W .non v from q)
  | bl b => exact rep_dp hs _ _ d (show Rep K cl W (.bl b) v from q)
  | int i => exact rep_dp hs _ _ d (show Rep K cl W (.int i) v from q)
  | str s => exact rep_dp hs _ _ d (show Rep K cl W (.str s) v from q)
mutual
theorem canLay_of : ∀ p : PV, isData p = true → (toD p).canLay0 = true
  | .non, _ => by simp [toD, PyData.canLay0]
  | .bl _, _ => by simp [toD, PyData.canLay0]
  | .int _, _ => by simp [toD, PyData.canLay0]
  | .str s, h => by
    simp only [isData] at h
    simp only [toD, PyData.canLay0]
    unfold PyData.strOk
    simpa using h
  | .tup ps, h => by
    simp only [isData] at h
    simp only [toD, PyData.canLay0]
    exact canLays_of ps h
  | .lst ps, h => by
    simp only [isData] at h
    simp only [toD, PyData.canLay0]
    exact canLays_of ps h
  | .dic _ _, h => by simp [isData] at h
  | .ins _ _, h => by simp [isData] at h
  | .ref _, h => by simp [isData] at h
  | .scr _, h => by simp [isData] at h
  | .ktp _, h => by simp [isData] at h
theorem canLays_of : ∀ p : List PV, isDataL p = true → PyData.canLayAll0 (toDs p) = true
  | [], _ => by simp [toDs, PyData.canLayAll0]
  | p :: r, h => by
    simp only [isDataL, Bool.and_eq_true] at h
    simp only [toDs, PyData.canLayAll0, Bool.and_eq_true]
    exact ⟨canLay_of p h.1, canLays_of r h.2⟩
end
mutual
theorem depth_of : ∀ p : PV, (toD p).depth = depthP p
  | .non => by simp [toD, PyData.depth, depthP]
  | .bl _ => by simp [toD, PyData.depth, depthP]
  | .int _ => by simp [toD, PyData.depth, depthP]
  | .str s => by simp [toD, PyData.depth, depthP]
  | .tup ps => by simp only [toD, PyData.depth, depthP, depths_of ps]
  | .lst ps => by simp only [toD, PyData.depth, depthP, depths_of ps]
  | .dic _ _ => by simp [toD, PyData.depth, depthP]
  | .ins _ _ => by simp [toD, PyData.depth, depthP]
  | .ref _ => by simp [toD, PyData.depth, depthP]
  | .scr _ => by simp [toD, PyData.depth, depthP]
  | .ktp _ => by simp [toD, PyData.depth, depthP]
theorem depths_of : ∀ p : List PV, PyData.depthAll (toDs p) = depthL p
  | [] => by simp [toDs, PyData.depthAll, depthL]
  | p :: r => by simp only [toDs, PyData.depthAll, depthL, depth_of p, depths_of r]
end
theorem shaped_of {p : PV} (h : dataOk p = true) : PySem.SeqAt.shaped (toD p) = true := by
  unfold dataOk at h
  simp only [Bool.and_eq_true, decide_eq_true_eq] at h
  unfold PySem.SeqAt.shaped
  rw [canLay_of p h.1, depth_of p]
  simp only [Bool.true_and, decide_eq_true_eq]
  omega
theorem str_beq (a b : List Nat) : ((⟨a.toArray⟩ : Str) == ⟨b.toArray⟩) = (a == b) := by
  by_cases h : a = b
  · subst h; simp
  · have h2 : ¬ (⟨a.toArray⟩ : Str) = ⟨b.toArray⟩ := fun e => h (by injection e with e; simpa using e)
    rw [beq_eq_false_iff_ne.mpr h, beq_eq_false_iff_ne.mpr h2]
mutual
theorem eqv_of : ∀ p q : PV, isData p = true → isData q = true → PyData.eqv (toD p) (toD q) = eqP p q
  | .non, q, _, h => by cases q <;> simp_all [toD, PyData.eqv, eqP, isData]
  | .bl b, q, _, h => by cases q <;> simp_all [toD, PyData.eqv, eqP, isData, b2n]
  | .int b, q, _, h => by cases q <;> simp_all [toD, PyData.eqv, eqP, isData, b2n]
  | .str b, q, _, h => by
    cases q <;> first | (simp_all [toD, PyData.eqv, eqP, isData, b2n]; done) | (simp only [toD, PyData.eqv, eqP, str_beq])
  | .tup ps, q, g, h => by
    cases q <;> first | (simp_all [toD, PyData.eqv, eqP, isData, b2n]; done) | skip
    rename_i qs
    simp only [toD, PyData.eqv, eqP]
    exact eqvs_of ps qs (by simpa [isData] using g) (by simpa [isData] using h)
  | .lst ps, q, g, h => by
    cases q <;> first | (simp_all [toD, PyData.eqv, eqP, isData, b2n]; done) | skip
    rename_i qs
    simp only [toD, PyData.eqv, eqP]
    exact eqvs_of ps qs (by simpa [isData] using g) (by simpa [isData] using h)
  | .dic _ _, _, h, _ => by simp [isData] at h
  | .ins _ _, _, h, _ => by simp [isData] at h
  | .ref _, _, h, _ => by simp [isData] at h
  | .scr _, _, h, _ => by simp [isData] at h
  | .ktp _, _, h, _ => by simp [isData] at h
theorem eqvs_of : ∀ p q : List PV, isDataL p = true → isDataL q = true → PyData.eqvAll (toDs p) (toDs q) = eqPs p q
  | [], [], _, _ => by simp [toDs, PyData.eqvAll, eqPs]
  | [], _ :: _, _, _ => by simp [toDs, PyData.eqvAll, eqPs]
  | _ :: _, [], _, _ => by simp [toDs, PyData.eqvAll, eqPs]
  | p :: ps, q :: qs, g, h => by
    simp only [isDataL, Bool.and_eq_true] at g h
    simp only [toDs, PyData.eqvAll, eqPs, eqv_of p q g.1 h.1, eqvs_of ps qs g.2 h.2]
end
end
end Lk

namespace Lk
open PySem L2

/-- from a world and a heap to later ones -/
structure Ext (W : Wd) (H : Hp) (W' : Wd) (H' : Hp) : Prop where
  le : W.le W'
  keep : ∀ a o, H a = some o → a ∉ W.inj → H' a = some o
  newF : ∀ a o, W'.F a = some o → W.F a = some o ∨ H a = none
  newI : ∀ a, a ∈ W'.inj → a ∈ W.inj ∨ H a = none
  back : ∀ a, H' a = none → H a = none
theorem Ext.refl (W : Wd) (H : Hp) : Ext W H W H := ⟨.refl W, fun _ _ h _ => h, fun _ _ h => .inl h, fun _ h => .inl h, fun _ h => h⟩
theorem Ext.trans {W W1 W2 : Wd} {H H1 H2 : Hp} (x : Ext W H W1 H1) (y : Ext W1 H1 W2 H2) : Ext W H W2 H2 := by
  refine ⟨x.le.trans y.le, fun a o h hn => ?_, fun a o h => ?_, fun a h => ?_, fun a h => x.back a (y.back a h)⟩
  · refine y.keep a o (x.keep a o h hn) fun hm => ?_
    rcases x.newI a hm with q | q
    · exact hn q
    · rw [q] at h; cases h
  · rcases y.newF a o h with q | q
    · exact x.newF a o q
    · exact .inr (x.back a q)
  · rcases y.newI a h with q | q
    · exact x.newI a q
    · exact .inr (x.back a q)
section
variable {K : PySem.W.Frag} {cl : String → Option Addr}
theorem At.ne_none {W : Wd} {H : Hp} {a : Addr} {p : PV} (h : At K cl W H a p) : ∃ o, H a = some o ∧ (∀ x, o ≠ .own x) ∧ (∀ b u, o ≠ .frz b u) ∧ (∀ xs, o ≠ .tup xs) := by
  cases p with
  | lst ps =>
    obtain ⟨xs, e, _⟩ := h
    refine ⟨_, e, ?_, ?_, ?_⟩ <;> intros <;> exact fun q => nomatch q
  | dic t kvs =>
    cases t <;> (obtain ⟨l, e, _⟩ := h; refine ⟨_, e, ?_, ?_, ?_⟩ <;> intros <;> exact fun q => nomatch q)
  | ins C fs =>
    obtain ⟨c, dx, l, e, _⟩ := h
    refine ⟨_, e, ?_, ?_, ?_⟩ <;> intros <;> exact fun q => nomatch q
  | _ => exact False.elim h
theorem At.mono {W W' : Wd} {H H' : Hp} {a : Addr} {p : PV} (h : At K cl W H a p) (le : W.le W') (k : ∀ o, H a = some o → H' a = some o) (kd : ∀ b, H b = some (.own a) → H' b = some (.own a)) : At K cl W' H' a p := by
  cases p with
  | lst ps =>
    obtain ⟨xs, e, r⟩ := h
    exact ⟨xs, k _ e, RepL.mono le _ _ r⟩
  | dic t kvs =>
    cases t
    · obtain ⟨l, e, r⟩ := h
      exact ⟨l, k _ e, RepK.mono le _ _ r⟩
    · obtain ⟨l, e, r⟩ := h
      exact ⟨l, k _ e, RepT.mono le _ _ r⟩
  | ins C fs =>
    obtain ⟨c, dx, l, e, ed, ec, r⟩ := h
    exact ⟨c, dx, l, k _ e, kd _ ed, ec, RepF.mono le _ _ r⟩
  | _ => exact False.elim h
variable (K) (cl)
/-- the store of what may change -/
structure RM (W : Wd) (mu : List PV) (H : Hp) : Prop where
  sub : ∀ a o, W.F a = some o → H a = some o
  at_ : ∀ (k : Nat) (a : Addr), W.inj[k]? = some a → ∃ p, mu[k]? = some p ∧ At K cl W H a p ∧ W.F a = none
  len : W.inj.length = mu.length
  nd : W.inj.Nodup
/-- a frame's state, since its entry (W0, H0) -/
structure Rl (W0 : Wd) (H0 : Hp) (W : Wd) (s : Sg) (σ : St) (H : Hp) : Prop where
  rm : RM K cl W s.mu H
  si : Ext W0 H0 W H
  len : s.env.length = σ.length
  val : ∀ (i : Nat) p, s.env[i]? = some (.val p) → ∃ v, σ[i]? = some (some v) ∧ Rep K cl W p v
  own : ∀ (i : Nat) p, s.env[i]? = some (.own p) → ∃ a, σ[i]? = some (some (.ref a)) ∧ At K cl W H a p ∧ W.F a = none ∧ a ∉ W.inj ∧ H0 a = none
  dist : ∀ (i j : Nat) p q a, s.env[i]? = some (.own p) → s.env[j]? = some (.own q) → σ[i]? = some (some (.ref a)) → σ[j]? = some (some (.ref a)) → i = j
/-- nobody's object -/
structure Fresh (W0 : Wd) (H0 : Hp) (W : Wd) (s : Sg) (σ : St) (H : Hp) (a : Addr) (p : PV) : Prop where
  at_ : At K cl W H a p
  f : W.F a = none
  i : a ∉ W.inj
  z : H0 a = none
  o : ∀ (i : Nat) q, s.env[i]? = some (.own q) → σ[i]? ≠ some (some (.ref a))
def Res (W0 : Wd) (H0 : Hp) (W : Wd) (s : Sg) (σ : St) (H : Hp) (v : V) (r : PV × Bool) : Prop :=
  match r.2 && isCont r.1 with
  | true => ∃ a, v = .ref a ∧ Fresh K cl W0 H0 W s σ H a r.1
  | false => Rep K cl W r.1 v
/-- a place -/
def PlR (W : Wd) (s : Sg) (σ : St) (v : V) : Pl → Prop
  | .v p => Rep K cl W p v
  | .sl i => σ[i]? = some (some v)
end
section
variable {K : PySem.W.Frag} {cl : String → Option Addr} {W0 W W' : Wd} {H0 H H' : Hp} {s : Sg} {σ : St} {mu mu' : List PV}
theorem RM.mem (R : RM K cl W mu H) {a : Addr} (h : a ∈ W.inj) : ∃ o, H a = some o ∧ (∀ x, o ≠ .own x) ∧ (∀ b u, o ≠ .frz b u) ∧ (∀ xs, o ≠ .tup xs) := by
  obtain ⟨k, hk⟩ := List.getElem?_of_mem h
  obtain ⟨p, _, q, _⟩ := R.at_ k a hk
  exact q.ne_none
theorem RM.dxn (R : RM K cl W mu H) {a b : Addr} (h : H b = some (.own a)) : b ∉ W.inj := fun hm => by
  obtain ⟨o, e, n, _⟩ := R.mem hm
  rw [h] at e; cases e
  exact n _ rfl
theorem RM.mem_f (R : RM K cl W mu H) {a : Addr} (h : a ∈ W.inj) : W.F a = none := by
  obtain ⟨k, hk⟩ := List.getElem?_of_mem h
  obtain ⟨p, _, _, q⟩ := R.at_ k a hk
  exact q
/-- what is not of the store stays -/
theorem At.ext {a : Addr} {p : PV} (R : RM K cl W mu H) (x : Ext W H W' H') (h : At K cl W H a p) (hn : a ∉ W.inj) : At K cl W' H' a p :=
  h.mono x.le (fun o e => x.keep a o e hn) fun b e => x.keep b _ e (R.dxn e)
theorem Ext.fresh_new (x : Ext W H W' H') {a : Addr} {o : HO} (h : H a = some o) (f : W.F a = none) (i : a ∉ W.inj) : W'.F a = none ∧ a ∉ W'.inj := by
  refine ⟨?_, fun hm => ?_⟩
  · cases q : W'.F a with
    | none => rfl
    | some u =>
      rcases x.newF a u q with z | z
      · rw [f] at z; cases z
      · rw [h] at z; cases z
  · rcases x.newI a hm with z | z
    · exact i z
    · rw [h] at z; cases z
/-- THE STEP: a call, a new object, a change of the store -/
theorem Rl.step (R : Rl K cl W0 H0 W s σ H) (x : Ext W H W' H') (m : RM K cl W' mu' H') : Rl K cl W0 H0 W' { s with mu := mu' } σ H' := by
  refine ⟨m, R.si.trans x, R.len, fun i p h => ?_, fun i p h => ?_, R.dist⟩
  · obtain ⟨v, e, r⟩ := R.val i p h
    exact ⟨v, e, r.mono x.le⟩
  · obtain ⟨a, e, t, f, n, z⟩ := R.own i p h
    obtain ⟨o, eo, _⟩ := t.ne_none
    obtain ⟨f', n'⟩ := x.fresh_new eo f n
    exact ⟨a, e, At.ext R.rm x t n, f', n', z⟩
theorem Fresh.step {a : Addr} {p : PV} (R : Rl K cl W0 H0 W s σ H) (x : Ext W H W' H') (h : Fresh K cl W0 H0 W s σ H a p) : Fresh K cl W0 H0 W' { s with mu := mu' } σ H' a p := by
  obtain ⟨o, eo, _⟩ := h.at_.ne_none
  obtain ⟨f', n'⟩ := x.fresh_new eo h.f h.i
  exact ⟨At.ext R.rm x h.at_ h.i, f', n', h.z, h.o⟩
/-- a new object, nobody's -/
theorem Ext.alloc {a : Addr} {o : HO} (h : H a = none) : Ext W H W (upd H a o) :=
  ⟨.refl W, fun b u e _ => by rw [upd_ne (ne_of_none e h)]; exact e, fun _ _ q => .inl q, fun _ q => .inl q, fun b q => by
    by_cases e : b = a
    · subst e; exact h
    · rwa [upd_ne e] at q⟩
theorem RM.alloc {a : Addr} {o : HO} (R : RM K cl W mu H) (h : H a = none) : RM K cl W mu (upd H a o) := by
  refine ⟨fun b u e => ?_, fun k b e => ?_, R.len, R.nd⟩
  · have q := R.sub b u e
    rw [upd_ne (ne_of_none q h)]
    exact q
  · obtain ⟨p, e1, t, f⟩ := R.at_ k b e
    exact ⟨p, e1, t.mono (.refl W) (fun u q => by rw [upd_ne (ne_of_none q h)]; exact q) (fun c q => by rw [upd_ne (ne_of_none q h)]; exact q), f⟩
/-- a new object, frozen at once -/
def Wd.add (W : Wd) (a : Addr) (o : HO) : Wd := ⟨upd W.F a o, W.inj⟩
theorem Wd.le_add {a : Addr} {o : HO} (f : W.F a = none) : W.le (W.add a o) := ⟨fun b u e => by show upd W.F a o b = _; rw [upd_ne (ne_of_none e f)]; exact e, [], by simp [Wd.add]⟩
theorem Ext.add {a : Addr} {o : HO} (R : RM K cl W mu H) (h : H a = none) : Ext W H (W.add a o) (upd H a o) := by
  have f : W.F a = none := by
    cases q : W.F a with
    | none => rfl
    | some u => rw [R.sub a u q] at h; cases h
  refine ⟨Wd.le_add f, fun b u e _ => by rw [upd_ne (ne_of_none e h)]; exact e, fun b u e => ?_, fun _ q => .inl q, fun b q => ?_⟩
  · by_cases eb : b = a
    · subst eb; exact .inr h
    · rw [show (W.add a o).F b = W.F b from upd_ne eb] at e; exact .inl e
  · by_cases e : b = a
    · subst e; exact h
    · rwa [upd_ne e] at q
theorem RM.add {a : Addr} {o : HO} (R : RM K cl W mu H) (h : H a = none) : RM K cl (W.add a o) mu (upd H a o) := by
  have f : W.F a = none := by
    cases q : W.F a with
    | none => rfl
    | some u => rw [R.sub a u q] at h; cases h
  refine ⟨fun b u e => ?_, fun k b e => ?_, R.len, R.nd⟩
  · by_cases eb : b = a
    · subst eb
      rw [show (W.add b o).F b = some o from upd_same] at e
      cases e
      exact upd_same
    · rw [show (W.add a o).F b = W.F b from upd_ne eb] at e
      rw [upd_ne eb]
      exact R.sub b u e
  · obtain ⟨p, e1, t, f1⟩ := R.at_ k b e
    obtain ⟨ob, eo, _⟩ := t.ne_none
    have nb : b ≠ a := ne_of_none eo h
    exact ⟨p, e1, t.mono (Wd.le_add f) (fun u q => by rw [upd_ne (ne_of_none q h)]; exact q) (fun c q => by rw [upd_ne (ne_of_none q h)]; exact q), by rw [show (W.add a o).F b = W.F b from upd_ne nb]; exact f1⟩
/-- nobody's object is frozen: a list -/
theorem RM.freeze {a : Addr} {o : HO} (R : RM K cl W mu H) (h : H a = some o) (f : W.F a = none) (n : a ∉ W.inj) : RM K cl (W.add a o) mu H := by
  refine ⟨fun b u e => ?_, fun k b e => ?_, R.len, R.nd⟩
  · by_cases eb : b = a
    · subst eb
      rw [show (W.add b o).F b = some o from upd_same] at e
      cases e
      exact h
    · rw [show (W.add a o).F b = W.F b from upd_ne eb] at e
      exact R.sub b u e
  · obtain ⟨p, e1, t, f1⟩ := R.at_ k b e
    have nb : b ≠ a := fun z => n (by rw [← z]; exact List.mem_of_getElem? e)
    exact ⟨p, e1, t.mono (Wd.le_add f) (fun u q => q) (fun c q => q), by rw [show (W.add a o).F b = W.F b from upd_ne nb]; exact f1⟩
/-- the heap at nobody's object changes -/
theorem RM.put {a : Addr} {o : HO} (R : RM K cl W mu H) (f : W.F a = none) (n : a ∉ W.inj) (no : ∀ x, H a ≠ some (.own x)) : RM K cl W mu (upd H a o) := by
  refine ⟨fun b u e => ?_, fun k b e => ?_, R.len, R.nd⟩
  · have nb : b ≠ a := fun z => by subst z; rw [f] at e; cases e
    rw [upd_ne nb]
    exact R.sub b u e
  · obtain ⟨p, e1, t, f1⟩ := R.at_ k b e
    have nb : b ≠ a := fun z => n (by rw [← z]; exact List.mem_of_getElem? e)
    exact ⟨p, e1, t.mono (.refl W) (fun u q => by rw [upd_ne nb]; exact q) (fun c q => by
      have nc : c ≠ a := fun z => by subst z; exact no _ q
      rw [upd_ne nc]; exact q), f1⟩
end
end Lk

namespace Lk
open PySem L2

/-! ### the evaluator's results taken apart -/
theorem bd_cases {α β : Type} {m : Rs α} {k : α → Sg → Rs β} {out : R β} {s' : Sg} (h : bd m k = some (out, s')) :
    (∃ a s1, m = some (.ok a, s1) ∧ k a s1 = some (out, s')) ∨ ∃ c fs, m = some (.exc c fs, s') ∧ out = .exc c fs := by
  unfold bd at h
  split at h
  · rename_i a s1; exact .inl ⟨a, s1, rfl, h⟩
  · rename_i c fs s1
    injection h with h
    injection h with h1 h2
    subst h1 h2
    exact .inr ⟨c, fs, rfl, rfl⟩
  · cases h
theorem op1_cases {α β : Type} {m : Option α} {k : α → Rs β} {r : R β × Sg} (h : op1 m k = some r) : ∃ a, m = some a ∧ k a = some r := by
  unfold op1 at h
  split at h
  · rename_i a; exact ⟨a, rfl, h⟩
  · cases h
theorem rt_inj {α : Type} {a : α} {s s' : Sg} {out : R α} (h : rt a s = some (out, s')) : out = .ok a ∧ s' = s := by
  unfold rt at h
  injection h with h
  injection h with h1 h2
  exact ⟨h1.symm, h2.symm⟩
theorem bd_rt {α β : Type} {a : α} {s : Sg} {k : α → Sg → Rs β} : bd (rt a s) k = k a s := rfl

section
variable (K : PySem.W.Frag) (cl : String → Option Addr)
/-- an exception that was raised: its class, its dict -/
def ExR (W : Wd) (H : Hp) (cls : Value) (d : Option Addr) (c : String) (fs : List (String × PV)) : Prop :=
  ∃ C, cl c = some C ∧ cls = .ref C ∧ ((fs = [] ∧ d = none) ∨ ∃ dx l, fs ≠ [] ∧ d = some dx ∧ H dx = some (.xd l) ∧ RepF K cl W fs l)
abbrev RR (α β : Type) := Wd → Hp → Wd → Sg → St → Hp → β → α → Prop
/-- a reading serves what the evaluator does -/
def JG {α β : Type} (Wx : WX) (te : St → Hp → (β → Hp → Prop) → Prop) (m : Sg → Rs α) (rel : RR α β) : Prop :=
  ∀ (W0 : Wd) (H0 : Hp) (W : Wd) (s : Sg) (σ : St) (H : Hp) (Q : β → Hp → Prop) (out : R α) (s' : Sg), Rl K cl W0 H0 W s σ H → m s = some (out, s') →
    (∀ a, out = .ok a → ∀ v W' H', W.le W' → Rl K cl W0 H0 W' s' σ H' → rel W0 H0 W' s' σ H' v a → Q v H') →
    (∀ c fs, out = .exc c fs → ∀ cls d W' H', W.le W' → Rl K cl W0 H0 W' s' σ H' → ExR K cl W' H' cls d c fs → Wx cls d σ H') → te σ H Q
def rRes : RR (PV × Bool) V := fun W0 H0 W s σ H v r => Res K cl W0 H0 W s σ H v r
def rVal : RR PV V := fun _ _ W _ _ _ v p => Rep K cl W p v
def rPl : RR Pl V := fun _ _ W s σ _ v pl => PlR K cl W s σ v pl
def rBl : RR Bool Bool := fun _ _ _ _ _ _ b c => b = c
def rLs : RR (List PV) (List V) := fun _ _ W _ _ _ vs ps => RepL K cl W ps vs
def PlL (W : Wd) (s : Sg) (σ : St) : List V → List Pl → Prop
  | [], [] => True
  | v :: vs, p :: ps => PlR K cl W s σ v p ∧ PlL W s σ vs ps
  | _, _ => False
def rPls : RR (List Pl) (List V) := fun _ _ W s σ _ vs ps => PlL K cl W s σ vs ps
end
section
variable {K : PySem.W.Frag} {cl : String → Option Addr} {α β γ : Type} {Wx : WX} {te : St → Hp → (β → Hp → Prop) → Prop} {m : Sg → Rs α} {rel : RR α β}
/-- one after another -/
theorem JG.go (J : JG K cl Wx te m rel) {W0 : Wd} {H0 : Hp} {W : Wd} {s s' : Sg} {σ : St} {H : Hp} {Q : β → Hp → Prop} {k : α → Sg → Rs γ} {out : R γ} (R : Rl K cl W0 H0 W s σ H) (h : bd (m s) k = some (out, s'))
    (hx : ∀ c fs, out = .exc c fs → ∀ cls d W' H', W.le W' → Rl K cl W0 H0 W' s' σ H' → ExR K cl W' H' cls d c fs → Wx cls d σ H')
    (hok : ∀ a s1, k a s1 = some (out, s') → ∀ v W' H', W.le W' → Rl K cl W0 H0 W' s1 σ H' → rel W0 H0 W' s1 σ H' v a → Q v H') : te σ H Q := by
  rcases bd_cases h with ⟨a, s1, h1, h2⟩ | ⟨c, fs, h1, h2⟩
  · refine J W0 H0 W s σ H Q _ s1 R h1 (fun b e v W' H' l R' r => ?_) (fun c fs e => nomatch e)
    cases e
    exact hok a s1 h2 v W' H' l R' r
  · subst h2
    refine J W0 H0 W s σ H Q _ s' R h1 (fun b e => nomatch e) (fun c fs e cls d W' H' l R' x => ?_)
    cases e
    exact hx _ _ rfl cls d W' H' l R' x
/-- a later world's wish -/
theorem hx_le {W0 : Wd} {H0 : Hp} {W W1 : Wd} {s' : Sg} {σ : St} {out : R γ} (l : W.le W1)
    (hx : ∀ c fs, out = .exc c fs → ∀ cls d W' H', W.le W' → Rl K cl W0 H0 W' s' σ H' → ExR K cl W' H' cls d c fs → Wx cls d σ H') :
    ∀ c fs, out = .exc c fs → ∀ cls d W' H', W1.le W' → Rl K cl W0 H0 W' s' σ H' → ExR K cl W' H' cls d c fs → Wx cls d σ H' :=
  fun c fs e cls d W' H' l' => hx c fs e cls d W' H' (l.trans l')
end

section
variable {K : PySem.W.Frag} {cl : String → Option Addr} {W0 W W' : Wd} {H0 H H' : Hp} {s : Sg} {σ : St}
theorem PlR.mono {v : V} {pl : Pl} (l : W.le W') (h : PlR K cl W s σ v pl) {s' : Sg} : PlR K cl W' s' σ v pl := by
  cases pl with
  | v p => exact Rep.mono l p v h
  | sl i => exact h
theorem At.rh {a : Addr} {p : PV} (h : At K cl W H a p) : RH K cl W H (.ref a) p := by
  cases p with
  | lst ps => obtain ⟨xs, e, r⟩ := h; exact ⟨a, xs, rfl, e, r⟩
  | dic t kvs =>
    cases t
    · obtain ⟨l, e, r⟩ := h
      exact ⟨a, l, rfl, .inl e, r⟩
    · obtain ⟨l, e, r⟩ := h
      exact ⟨a, l, rfl, .inl e, r⟩
  | ins C fs => obtain ⟨c, dx, l, e, ed, ec, r⟩ := h; exact ⟨a, c, dx, l, rfl, e, ed, ec, r⟩
  | _ => exact False.elim h
theorem Rep.rh {p : PV} {v : V} (hs : ∀ a o, W.F a = some o → H a = some o) (h : Rep K cl W p v) (hr : ∀ k, p ≠ .ref k) : RH K cl W H v p := by
  cases p with
  | tup ps => exact h
  | lst ps => unfold Rep at h; obtain ⟨a, xs, e, q, r⟩ := h; exact ⟨a, xs, e, hs _ _ q, r⟩
  | dic t kvs =>
    cases t
    · unfold Rep at h
      obtain ⟨a, o, l, e, q, r⟩ := h
      exact ⟨a, l, e, .inr ⟨o, hs _ _ q⟩, r⟩
    · unfold Rep at h
      obtain ⟨a, o, l, e, q, r⟩ := h
      exact ⟨a, l, e, .inr ⟨o, hs _ _ q⟩, r⟩
  | ins C fs => unfold Rep at h; obtain ⟨a, c, dx, l, e, q, qd, ec, r⟩ := h; exact ⟨a, c, dx, l, e, hs _ _ q, hs _ _ qd, ec, r⟩
  | ref k => exact absurd rfl (hr k)
  | scr ns => exact h
  | ktp ps => exact h
  | non => exact h
  | bl _ => exact h
  | int _ => exact h
  | str _ => exact h
theorem drf_rh {mu : List PV} {p x : PV} {v : V} (R : RM K cl W mu H) (h : Rep K cl W p v) (e : drf mu p = some x) : RH K cl W H v x := by
  cases p with
  | ref k =>
    unfold Rep at h
    obtain ⟨a, ev, q⟩ := h
    obtain ⟨p', e1, t, _⟩ := R.at_ k a q
    have e' : mu[k]? = some x := e
    rw [e1] at e'
    cases e'
    rw [ev]
    exact t.rh
  | _ =>
    have e' : _ = x := Option.some.inj e
    rw [← e']
    exact h.rh R.sub (fun k q => nomatch q)
/-- what is seen at a place -/
theorem look_ok {pl : Pl} {x : PV} {v : V} (R : Rl K cl W0 H0 W s σ H) (h : PlR K cl W s σ v pl) (e : s.look pl = some x) : RH K cl W H v x := by
  cases pl with
  | v p => exact drf_rh R.rm h e
  | sl i =>
    have hv : σ[i]? = some (some v) := h
    have e' : (match s.env[i]? with
      | some (.own p) => some p
      | some (.val p) => drf s.mu p
      | _ => none) = some x := e
    split at e'
    · rename_i p hp
      cases e'
      obtain ⟨a, ea, t, _⟩ := R.own i _ hp
      rw [hv] at ea
      have : v = .ref a := Option.some.inj (Option.some.inj ea)
      rw [this]
      exact t.rh
    · rename_i p hp
      obtain ⟨w, ew, r⟩ := R.val i _ hp
      rw [hv] at ew
      have : v = w := Option.some.inj (Option.some.inj ew)
      subst this
      exact drf_rh R.rm r e'
    · cases e'
theorem PlL.mono (l : W.le W') {s' : Sg} : ∀ {vs : List V} {ps : List Pl}, PlL K cl W s σ vs ps → PlL K cl W' s' σ vs ps
  | [], [], _ => True.intro
  | _ :: _, _ :: _, h => ⟨h.1.mono l, PlL.mono l h.2⟩
  | [], _ :: _, h => h.elim
  | _ :: _, [], h => h.elim
def RHL (K : PySem.W.Frag) (cl : String → Option Addr) (W : Wd) (H : Hp) : List V → List PV → Prop
  | [], [] => True
  | v :: vs, p :: ps => RH K cl W H v p ∧ RHL K cl W H vs ps
  | _, _ => False
theorem lookL_ok (R : Rl K cl W0 H0 W s σ H) : ∀ {vs : List V} {ps : List Pl} {xs : List PV}, PlL K cl W s σ vs ps → s.lookL ps = some xs → RHL K cl W H vs xs
  | [], [], xs, _, e => by cases e; exact True.intro
  | v :: vs, p :: ps, xs, h, e => by
    unfold Sg.lookL at e
    split at e
    · rename_i x ys h1 h2
      cases e
      exact ⟨look_ok R h.1 h1, lookL_ok R h.2 h2⟩
    · cases e
  | [], _ :: _, _, h, _ => h.elim
  | _ :: _, [], _, h, _ => h.elim
theorem isCont_at {o : HO} {a : Addr} {p : PV} (h : ObjP K cl W o p) (c : isCont p = true) (e : H a = some o) : At K cl W H a p := by
  cases p with
  | lst ps => obtain ⟨xs, eo, r⟩ := h; subst eo; exact ⟨xs, e, r⟩
  | dic t kvs =>
    cases t
    · obtain ⟨l, eo, r⟩ := h
      subst eo; exact ⟨l, e, r⟩
    · obtain ⟨l, eo, r⟩ := h
      subst eo; exact ⟨l, e, r⟩
  | _ => simp [isCont] at c
/-- a new object ends an expression -/
theorem fin_new {v : V} {r : PV × Bool} (R : Rl K cl W0 H0 W s σ H) (n : New K cl W H H' v r) : ∃ W', W.le W' ∧ Rl K cl W0 H0 W' s σ H' ∧ Res K cl W0 H0 W' s σ H' v r := by
  obtain ⟨p, fr⟩ := r
  rcases n with ⟨hf, e, q⟩ | ⟨a, o, ev, hn, e, ob, k⟩
  · simp only at hf; subst hf e
    exact ⟨W, .refl W, R, by unfold Res; exact q⟩
  · subst e
    rcases k with ⟨k1, k2⟩ | ⟨k1, k2⟩
    · simp only at k1 k2; subst k1
      have x := Ext.alloc (W := W) (o := o) hn
      refine ⟨W, .refl W, R.step x (R.rm.alloc hn), ?_⟩
      unfold Res
      simp only [k2, Bool.and_self]
      refine ⟨a, ev, isCont_at ob k2 upd_same, ?_, fun hm => ?_, R.si.back a hn, fun i q hq he => ?_⟩
      · cases q : W.F a with
        | none => rfl
        | some u => rw [R.rm.sub a u q] at hn; cases hn
      · obtain ⟨u, eu, _⟩ := R.rm.mem hm
        rw [hn] at eu; cases eu
      · obtain ⟨b, eb, t, _⟩ := R.own i q hq
        rw [he] at eb
        have : a = b := by simpa using eb
        subst this
        obtain ⟨u, eu, _⟩ := t.ne_none
        rw [hn] at eu; cases eu
    · simp only at k1 k2; subst k1
      refine ⟨W.add a o, (Ext.add R.rm hn).le, R.step (Ext.add R.rm hn) (R.rm.add hn), ?_⟩
      unfold Res
      simp only [k2, Bool.and_self, Bool.false_and]
      cases p with
      | tup ps =>
        obtain ⟨xs, eo, r⟩ := ob
        subst eo
        unfold Rep
        exact ⟨a, xs, ev, upd_same, RepL.mono (Ext.add R.rm hn).le _ _ r⟩
      | lst _ => simp [isCont] at k2
      | dic _ _ => simp [isCont] at k2
      | _ => exact False.elim ob
/-- the environment told less, or something that is so -/
theorem Rl.env {env' : List Cell} (R : Rl K cl W0 H0 W s σ H) (hl : env'.length = s.env.length) (hv : ∀ (i : Nat) p, env'[i]? = some (.val p) → s.env[i]? = some (.val p) ∨ ∃ v, σ[i]? = some (some v) ∧ Rep K cl W p v)
    (ho : ∀ (i : Nat) p, env'[i]? = some (.own p) → s.env[i]? = some (.own p)) : Rl K cl W0 H0 W { s with env := env' } σ H :=
  ⟨R.rm, R.si, hl.trans R.len, fun i p h => (hv i p h).elim (fun h => R.val i p h) id, fun i p h => R.own i p (ho i p h), fun i j p q a h1 h2 => R.dist i j p q a (ho i p h1) (ho j q h2)⟩
/-- nobody's object is frozen (o: as it is then) -/
theorem Rl.freeze {a : Addr} {p : PV} {o : HO} (R : Rl K cl W0 H0 W s σ H) (t : At K cl W H a p) (f : W.F a = none) (n : a ∉ W.inj) (z : H0 a = none)
    (no : ∀ (i : Nat) q, s.env[i]? = some (.own q) → σ[i]? ≠ some (some (.ref a))) : Rl K cl W0 H0 (W.add a o) s σ (upd H a o) := by
  obtain ⟨u, eu, nown, _⟩ := t.ne_none
  have m1 : RM K cl W s.mu (upd H a o) := R.rm.put f n (fun x e => nown x (Option.some.inj (eu.symm.trans e)))
  have le := Wd.le_add (W := W) (a := a) (o := o) f
  refine ⟨m1.freeze upd_same f n, ⟨R.si.le.trans le, fun b u e hb => ?_, fun b u e => ?_, R.si.newI, fun b e => ?_⟩, R.len, fun i p h => ?_, fun i p h => ?_, R.dist⟩
  · have nb : b ≠ a := fun q => by subst q; rw [z] at e; cases e
    rw [upd_ne nb]
    exact R.si.keep b u e hb
  · by_cases eb : b = a
    · subst eb; exact .inr z
    · rw [show (W.add a o).F b = W.F b from upd_ne eb] at e
      exact R.si.newF b u e
  · by_cases eb : b = a
    · subst eb; exact z
    · rw [upd_ne eb] at e
      exact R.si.back b e
  · obtain ⟨v, e, r⟩ := R.val i p h
    exact ⟨v, e, r.mono le⟩
  · obtain ⟨b, e, t', f', n', z'⟩ := R.own i p h
    have nb : b ≠ a := fun q => no i p h (by rw [e, q])
    obtain ⟨ub, eub, nob, _⟩ := t'.ne_none
    refine ⟨b, e, t'.mono le (fun u q => by rw [upd_ne nb]; exact q) (fun c q => ?_), by rw [show (W.add a o).F b = W.F b from upd_ne nb]; exact f', n', z'⟩
    have nc : c ≠ a := fun y => by
      subst y
      rw [eu] at q
      exact nown _ (Option.some.inj q)
    rw [upd_ne nc]; exact q
end
end Lk

namespace Lk
open PySem L2 PySem.Spec PyProof.Rows

def toB : Bop → Operator
  | .add => .Add | .sub => .Sub | .mul => .Mult | .fdiv => .FloorDiv | .mod => .Mod | .pow => .Pow
  | .shl => .LShift | .shr => .RShift | .band => .BitAnd | .bor => .BitOr | .bxor => .BitXor
def toC : Cop → CmpOp
  | .eq => .Eq | .ne => .NotEq | .lt => .Lt | .le => .LtE | .gt => .Gt | .ge => .GtE | .is => .Is | .isn => .IsNot | .in_ => .In | .nin => .NotIn
theorem SL_eq : SL = sizeLine := by rw [sizeLine_eq]; rfl

section
variable (K : PySem.W.Frag) (cl : String → Option Addr)
def Sub (W : Wd) (H : Hp) : Prop := ∀ a o, W.F a = some o → H a = some o
def r2 (f : PV → PV → Option (PV × Bool)) : R2 := fun x y H Q => ∃ W p q res, Sub W H ∧ RH K cl W H x p ∧ RH K cl W H y q ∧ f p q = some res ∧ ∀ v H', New K cl W H H' v res → Q v H'
end
section
variable {X : Cx} {K : PySem.W.Frag} {cl : String → Option Addr} {W : Wd} {H : Hp}
theorem natAbs64 {i : Int} (h : i.natAbs < 2 ^ 64) : -(2 ^ 64) < i ∧ i < 2 ^ 64 := by omega
theorem cpow_ok {i j : Int} (h : cpowB i j = true) : CPow i j := by
  unfold cpowB at h
  simp only [Bool.and_eq_true, decide_eq_true_eq] at h
  exact ⟨h.1, h.2.1, h.2.2⟩
theorem new_int {i : Int} : New K cl W H H (.int i) (.int i, false) := .inl ⟨rfl, rfl, by unfold Rep; rfl⟩
theorem new_bl {i : Bool} : New K cl W H H (.bl i) (.bl i, false) := .inl ⟨rfl, rfl, by unfold Rep; rfl⟩
theorem new_str {i : List Nat} : New K cl W H H (.str ⟨i.toArray⟩) (.str i, false) := .inl ⟨rfl, rfl, by unfold Rep; rfl⟩
theorem binI_ok {op : Bop} {pins : List (Addr × Obj)} {s : Shared} {σ : L2.St} {H : Hp} {i j k : Int} {v u : Value} {Q : VK} (I : Inv X pins σ H s) (rx : RelV (.int i) v) (ry : RelV (.int j) u) (e : binI op i j = some k) (q : Q (.int k) H) :
    wpAny (model X.prog X.w) X.A (binaryOp (toB op) v u) (EP X pins σ Q) X.xe s := by
  cases op with
  | add => cases e; exact op_add pins s σ H _ _ v u Q I rx ry ⟨i, j, rfl, rfl, q⟩
  | sub => cases e; exact op_sub pins s σ H _ _ v u Q I rx ry ⟨i, j, rfl, rfl, q⟩
  | mul =>
    have e' : (if cmulB i j = true then some (i * j) else none) = some k := e
    split at e'
    · rename_i hc
      cases e'
      unfold cmulB at hc
      simp only [Bool.or_eq_true, decide_eq_true_eq] at hc
      exact op_mul pins s σ H _ _ v u Q I rx ry ⟨i, j, rfl, rfl, hc.imp natAbs64 natAbs64, q⟩
    · cases e'
  | fdiv =>
    have e' : (if 0 < j ∧ j.natAbs < 1073741824 then some (i / j) else none) = some k := e
    split at e'
    · rename_i hc
      cases e'
      exact op_fdiv pins s σ H _ _ v u Q I rx ry ⟨i, j, rfl, rfl, ⟨hc.1, by omega⟩, q⟩
    · cases e'
  | mod =>
    have e' : (if 0 < j then some (i % j) else none) = some k := e
    split at e'
    · rename_i hc
      cases e'
      exact op_mod pins s σ H _ _ v u Q I rx ry ⟨i, j, rfl, rfl, hc, q⟩
    · cases e'
  | pow =>
    have e' : (if cpowB i j = true then some (i ^ j.toNat) else none) = some k := e
    split at e'
    · rename_i hc
      cases e'
      exact op_pow pins s σ H _ _ v u Q I rx ry ⟨i, j, rfl, rfl, cpow_ok hc, q⟩
    · cases e'
  | shl =>
    have e' : (if cpowB i j = true then some (i * 2 ^ j.toNat) else none) = some k := e
    split at e'
    · rename_i hc
      cases e'
      exact op_shl pins s σ H _ _ v u Q I rx ry ⟨i, j, rfl, rfl, cpow_ok hc, q⟩
    · cases e'
  | shr =>
    have e' : (if 0 ≤ j then some (i / 2 ^ j.toNat) else none) = some k := e
    split at e'
    · rename_i hc
      cases e'
      exact op_shr pins s σ H _ _ v u Q I rx ry ⟨i, j, rfl, rfl, hc, q⟩
    · cases e'
  | band => cases e; exact op_and pins s σ H _ _ v u Q I rx ry ⟨i, j, rfl, rfl, q⟩
  | bor => cases e; exact op_or pins s σ H _ _ v u Q I rx ry ⟨i, j, rfl, rfl, q⟩
  | bxor => cases e; exact op_xor pins s σ H _ _ v u Q I rx ry ⟨i, j, rfl, rfl, q⟩
theorem str_len (a : List Nat) : (⟨a.toArray⟩ : Str).length = a.length := by simp [Str.length]
theorem str_app (a b : List Nat) : (⟨a.toArray⟩ : Str) ++ ⟨b.toArray⟩ = ⟨(a ++ b).toArray⟩ := by
  show Str.append _ _ = _
  unfold Str.append
  simp
/-- text times int -/
theorem op_mulS : OpR X (binaryOp .Mult) (fun x y H Q => ∃ (a : List Nat) (n : Int), x = .str ⟨a.toArray⟩ ∧ y = .int n ∧ a.length * n.toNat ≤ sizeLine ∧ n < 2 ^ 62 ∧ -(2 ^ 62) < n ∧ Q (.str ⟨(rep a n.toNat).toArray⟩) H) := by
  intro pins s σ H x y v u Q I rx ry h
  obtain ⟨a, n, rfl, rfl, hz, h1, h2, q⟩ := h
  obtain ⟨t, rfl⟩ := rx
  obtain ⟨t', rfl⟩ := ry
  have fr : ∀ m : Nat, (List.replicate m a.toArray).foldl (· ++ ·) (#[] : Array Nat) = (rep a m).toArray := by
    intro m
    have g : ∀ (m : Nat) (acc : List Nat), (List.replicate m a.toArray).foldl (· ++ ·) acc.toArray = (acc ++ rep a m).toArray := by
      intro m
      induction m with
      | zero => intro acc; simp [rep]
      | succ m ih =>
        intro acc
        rw [List.replicate_succ, List.foldl_cons, show acc.toArray ++ a.toArray = (acc ++ a).toArray by simp, ih]
        simp [rep, List.replicate_succ]
    have := g m []
    simpa using this
  refine PySem.P.mul_str (by rw [decide_eq_false (by omega), decide_eq_false (by omega)]; rfl) (fun h0 hc hgt => ?_) (fun h0 hc => ?_) ?_
  · have e1 : ((⟨a.toArray⟩ : Str).length : Int) = (a.length : Int) := by rw [str_len]
    rw [e1] at hgt
    have hn : n = (n.toNat : Int) := by omega
    have h3 : a.length * n.toNat ≤ 16777216 := by rw [sizeLine_eq] at hz; exact hz
    have h4 : (a.length : Int) * n ≤ 16777216 := by
      have e2 : (a.length : Int) * (n.toNat : Int) = ((a.length * n.toNat : Nat) : Int) := (Int.natCast_mul _ _).symm
      rw [hn, e2]
      exact Int.ofNat_le.mpr h3
    have h5 : (2 ^ 63 - 1 : Int) / n < (a.length : Int) := hgt
    have h6 : (2 ^ 63 - 1 : Int) < (a.length : Int) * n := (Int.ediv_lt_iff_lt_mul (by omega)).mp h5
    omega
  · rw [str_len]
    have h3 : a.length * n.toNat ≤ 16777216 := by rw [sizeLine_eq] at hz; exact hz
    exact decide_eq_false (by rw [sizeLine_eq]; omega)
  · have fin : ∀ (z : List Nat) (tk : Nat), z = rep a n.toNat → EP X pins σ Q (.str ⟨z.toArray⟩ tk) { s with toks := s.toks + 1 } := by
      intro z tk e
      subst e
      exact ⟨.str _, H, I.tok _, ⟨_, rfl⟩, q⟩
    by_cases h0 : n < 1
    · rw [if_pos h0]
      have e0 : n.toNat = 0 := by omega
      refine ⟨by decide, ?_⟩
      exact fin [] s.toks (by rw [e0]; simp [rep])
    · rw [if_neg h0]
      by_cases hc : (n == 1 || (⟨a.toArray⟩ : Str).length == 0) = true
      · rw [if_pos hc]
        have e1 : a = rep a n.toNat := by
          rw [str_len] at hc
          simp only [Bool.or_eq_true, beq_iff_eq] at hc
          rcases hc with hc | hc
          · subst hc; simp [rep]
          · have : a = [] := List.length_eq_zero_iff.mp hc
            subst this
            have z : ∀ m : Nat, rep ([] : List Nat) m = [] := by intro m; simp [rep]
            rw [z]
        show EP X pins σ Q (.str ⟨a.toArray⟩ t) s
        exact ⟨.str ⟨a.toArray⟩, H, I, ⟨_, rfl⟩, by rw [← e1] at q; exact q⟩
      · rw [if_neg hc]
        refine ⟨?_, ?_⟩
        · rw [fr]
          have h3 : a.length * n.toNat ≤ 16777216 := by rw [sizeLine_eq] at hz; exact hz
          have hl : (rep a n.toNat).length = n.toNat * a.length := by simp [rep]
          first
            | (show (rep a n.toNat).toArray.size ≤ _; simp [hl]; rw [Nat.mul_comm]; omega)
            | (simp [hl]; rw [Nat.mul_comm]; omega)
            | trivial
        · rw [fr]
          exact fin _ s.toks rfl
theorem bin_ok {op : Bop} : OpR X (binaryOp (toB op)) (r2 X.K cl (binP op)) := by
  intro pins s σ H x y v u Q I rx ry h
  obtain ⟨W, p, q, res, sub, hp, hq, e, k⟩ := h
  cases p with
  | int i =>
    cases q with
    | int j =>
      have e' : (binI op i j).map (fun k => (PV.int k, false)) = some res := by cases op <;> exact e
      obtain ⟨z, e1, e2⟩ := Option.map_eq_some_iff.mp e'
      subst e2
      have ex : x = .int i := by unfold RH Rep at hp; exact hp
      have ey : y = .int j := by unfold RH Rep at hq; exact hq
      subst ex ey
      exact binI_ok I rx ry e1 (k _ _ new_int)
    | _ => cases op <;> simp [binP] at e
  | str a =>
    have ex : x = .str ⟨a.toArray⟩ := by unfold RH Rep at hp; exact hp
    subst ex
    cases q with
    | str b =>
      cases op <;> simp [binP] at e
      obtain ⟨hl, e⟩ := e
      subst e
      have ey : y = .str ⟨b.toArray⟩ := by unfold RH Rep at hq; exact hq
      subst ey
      refine op_add_str pins s σ H _ _ v u Q I rx ry ⟨_, _, rfl, rfl, by rw [str_len, str_len, ← SL_eq]; exact hl, ?_⟩
      rw [str_app]
      exact k _ _ new_str
    | int n =>
      cases op <;> simp [binP] at e
      obtain ⟨hl, e⟩ := e
      subst e
      have ey : y = .int n := by unfold RH Rep at hq; exact hq
      subst ey
      exact op_mulS pins s σ H _ _ v u Q I rx ry ⟨_, _, rfl, rfl, by rw [← SL_eq]; exact hl.1, by omega, by omega, k _ _ new_str⟩
    | _ => cases op <;> simp [binP] at e
  | tup ps =>
    cases q with
    | tup qs =>
      cases op <;> simp [binP] at e
      obtain ⟨hl, e⟩ := e
      subst e
      have hp' : Rep X.K cl W (.tup ps) x := hp
      have hq' : Rep X.K cl W (.tup qs) y := hq
      unfold Rep at hp' hq'
      obtain ⟨a, xs, rfl, ea, ra⟩ := hp'
      obtain ⟨b, ys, rfl, eb, rb⟩ := hq'
      refine op_catA pins s σ H _ _ v u Q I rx ry ⟨a, b, xs, ys, rfl, rfl, .of (sub _ _ ea), .of (sub _ _ eb), by rw [← ra.length, ← rb.length, ← SL_eq]; exact hl, fun h0 => ?_, fun h0 h1 => ?_, fun h0 h1 l hn => ?_⟩
      · have : ps = [] := by have := ra.length; rw [h0] at this; exact List.length_eq_zero_iff.mp this
        subst this
        exact k _ _ (.inl ⟨rfl, rfl, hq⟩)
      · have : qs = [] := by have := rb.length; rw [h1] at this; exact List.length_eq_zero_iff.mp this
        subst this
        refine k _ _ (.inl ⟨rfl, rfl, ?_⟩)
        rw [List.append_nil]
        exact hp
      · exact k _ _ (.inr ⟨l, _, rfl, hn, rfl, ⟨_, rfl, ra.append rb⟩, .inr ⟨rfl, rfl⟩⟩)
    | _ => cases op <;> simp [binP] at e
  | lst ps =>
    obtain ⟨a, xs, rfl, ea, ra⟩ := hp
    cases q with
    | lst qs =>
      cases op <;> simp [binP] at e
      obtain ⟨hl, e⟩ := e
      subst e
      obtain ⟨b, ys, rfl, eb, rb⟩ := hq
      exact op_cat pins s σ H _ _ v u Q I rx ry ⟨a, b, xs, ys, rfl, rfl, ea, eb, by rw [← ra.length, ← rb.length, ← SL_eq]; exact hl, fun l hn =>
        k _ _ (.inr ⟨l, _, rfl, hn, rfl, ⟨_, rfl, ra.append rb⟩, .inl ⟨rfl, rfl⟩⟩)⟩
    | int n =>
      cases op <;> simp [binP] at e
      obtain ⟨hl, e⟩ := e
      subst e
      have ey : y = .int n := by unfold RH Rep at hq; exact hq
      subst ey
      exact op_rep pins s σ H _ _ v u Q I rx ry ⟨a, n, xs, rfl, rfl, ea, by omega, by omega, by rw [← ra.length, ← SL_eq]; exact hl.1, fun l hn =>
        k _ _ (.inr ⟨l, _, rfl, hn, rfl, ⟨_, rfl, ra.rep _⟩, .inl ⟨rfl, rfl⟩⟩)⟩
    | _ => cases op <;> simp [binP] at e
  | _ => cases op <;> cases q <;> simp [binP] at e
end
end Lk

namespace Lk
open PySem L2 PySem.Spec PyProof.Rows
section
variable {X : Cx} {K : PySem.W.Frag} {cl : String → Option Addr} {W : Wd} {H : Hp}
theorem ltL_eq : ∀ a b : List Nat, ltL a b = decide (a < b)
  | [], [] => by simp [ltL]
  | _ :: _, [] => by simp [ltL]
  | [], _ :: _ => by simp [ltL]
  | x :: xs, y :: ys => by
    unfold ltL
    rw [ltL_eq xs ys]
    by_cases h : x < y
    · simp [h, List.cons_lt_cons_iff]
    · by_cases h2 : x = y
      · subst h2; simp [List.cons_lt_cons_iff]
      · simp [h, h2, List.cons_lt_cons_iff]
theorem rep_eq_scal {p q : PV} {x y : V} (h : scalP p q = true) (hp : RH K cl W H x p) (hq : RH K cl W H y q) : scal x y = true ∧ decide (x = y) = eqP p q := by
  cases p <;> cases q <;> simp [scalP] at h <;> (unfold RH Rep at hp hq; subst hp hq; simp [scal, eqP])
  all_goals first
    | exact Bool.beq_eq_decide_eq _ _ |>.symm
    | skip
/-- a plain value -/
theorem flat_v {p : PV} {x : V} (f : flatP p = true) (h : Rep K cl W p x) : flatV x = true := by
  cases p <;> simp [flatP] at f <;> (unfold Rep at h; subst h; rfl)
theorem flat_eq {p q : PV} {x y : V} (f : flatP p = true) (g : flatP q = true) (hp : Rep K cl W p x) (hq : Rep K cl W q y) : eqV x y = eqP p q := by
  cases p <;> cases q <;> simp [flatP] at f g <;> (unfold Rep at hp hq; subst hp hq; simp [eqV, eqP, b2n])
  all_goals first
    | exact str_beq _ _
    | skip
theorem flat_all : ∀ {ps : List PV} {xs : List V}, ps.all flatP = true → RepL K cl W ps xs → xs.all flatV = true
  | [], xs, _, h => by unfold RepL at h; subst h; rfl
  | p :: r, xs, f, h => by
    unfold RepL at h
    obtain ⟨x, t, e, q1, q2⟩ := h
    subst e
    simp only [List.all_cons, Bool.and_eq_true] at f ⊢
    exact ⟨flat_v f.1 q1, flat_all f.2 q2⟩
theorem flat_any {q : PV} {y : V} (g : flatP q = true) (hq : Rep K cl W q y) : ∀ {ps : List PV} {xs : List V}, ps.all flatP = true → RepL K cl W ps xs → inV y xs = ps.any fun z => eqP z q
  | [], xs, _, h => by unfold RepL at h; subst h; rfl
  | p :: r, xs, f, h => by
    unfold RepL at h
    obtain ⟨x, t, e, q1, q2⟩ := h
    subst e
    simp only [List.all_cons, Bool.and_eq_true] at f
    have ih := flat_any g hq f.2 q2
    unfold inV at ih ⊢
    rw [List.any_cons, List.any_cons, ih, flat_eq f.1 g q1 hq]
theorem flatP_rep {p : PV} {x : V} (f : flatP p = true) (h : RH K cl W H x p) : Rep K cl W p x := by
  cases p <;> simp [flatP] at f <;> exact h
theorem toDs_any {q : PV} (hq : isData q = true) : ∀ {ps : List PV}, isDataL ps = true → ((toDs ps).any fun z => PyData.eqv z (toD q)) = ps.any fun z => eqP z q
  | [], _ => rfl
  | p :: r, h => by
    simp only [isDataL, Bool.and_eq_true] at h
    simp only [toDs, List.any_cons, toDs_any hq h.2, eqv_of p q h.1 hq]
theorem dataOk_d {p : PV} (h : dataOk p = true) : isData p = true := by
  unfold dataOk at h
  simp only [Bool.and_eq_true] at h
  exact h.1
theorem dataOk_l {ps : List PV} (h : dataOk (.lst ps) = true) : isDataL ps = true := by
  have := dataOk_d h
  simpa [isData] using this
/-- keys -/
theorem keyOf1_rep {p : PV} {x : V} {k : Key} (e : keyOf1 p = some k) (h : Rep K cl W p x) : x = kV k := by
  cases p <;> simp [keyOf1] at e <;> (unfold Rep at h; subst e h; rfl)
theorem keyOfL_rep : ∀ {ps : List PV} {xs : List V} {ks : List Key}, keyOfL ps = some ks → RepL K cl W ps xs → xs = ks.map kV
  | [], xs, ks, e, h => by unfold RepL at h; simp [keyOfL] at e; subst e h; rfl
  | p :: r, xs, ks, e, h => by
    unfold RepL at h
    obtain ⟨x, t, e', q1, q2⟩ := h
    subst e'
    unfold keyOfL at e
    split at e
    · rename_i k ks' e1 e2
      cases e
      rw [keyOf1_rep e1 q1, keyOfL_rep e2 q2]
      rfl
    · cases e
theorem keyOf_rep {p : PV} {x : V} {k : DKey} (sub : Sub W H) (e : keyOf p = some k) (h : Rep K cl W p x) :
    (∃ k', k = .inl k' ∧ x = kV k') ∨ ∃ ks b, k = .inr ks ∧ x = .ref b ∧ H b = some (.tup (ks.map kV)) := by
  cases p with
  | int i => cases e; unfold Rep at h; exact .inl ⟨_, rfl, h⟩
  | str i => cases e; unfold Rep at h; exact .inl ⟨_, rfl, h⟩
  | tup ps =>
    have e' : (keyOfL ps).map Sum.inr = some k := e
    obtain ⟨ks, e1, e2⟩ := Option.map_eq_some_iff.mp e'
    unfold Rep at h
    obtain ⟨a, xs, ex, q, r⟩ := h
    rw [keyOfL_rep e1 r] at q
    exact .inr ⟨ks, a, e2.symm, ex, sub _ _ q⟩
  | _ => cases e
theorem repK_get : ∀ {kvs : List (DKey × PV)} {l : List (Key × V)} (k : Key), RepK K cl W kvs l → (∃ p x, dget kvs (.inl k) = some p ∧ valV l k = some x ∧ Rep K cl W p x) ∨ (dget kvs (.inl k) = none ∧ valV l k = none)
  | [], l, k, h => by unfold RepK at h; subst h; exact .inr ⟨rfl, rfl⟩
  | (k0, p) :: r, l, k, h => by
    unfold RepK at h
    obtain ⟨k', x, t, e, e2, q1, q2⟩ := h
    subst e e2
    by_cases hk : k' = k
    · subst hk
      exact .inl ⟨p, x, by simp [dget], valV_pos rfl, q1⟩
    · rw [valV_neg (by simpa using hk)]
      have : dget ((Sum.inl k', p) :: r) (.inl k) = dget r (.inl k) := by
        have : ¬ (Sum.inl k' : DKey) = .inl k := fun q => hk (Sum.inl.inj q)
        simp [dget, List.find?_cons, this]
      rw [this]
      exact repK_get k q2
theorem repT_get : ∀ {kvs : List (DKey × PV)} {l : List (List Key × V)} (k : List Key), RepT K cl W kvs l → (∃ p x, dget kvs (.inr k) = some p ∧ valV l k = some x ∧ Rep K cl W p x) ∨ (dget kvs (.inr k) = none ∧ valV l k = none)
  | [], l, k, h => by unfold RepT at h; subst h; exact .inr ⟨rfl, rfl⟩
  | (k0, p) :: r, l, k, h => by
    unfold RepT at h
    obtain ⟨k', x, t, e, e2, q1, q2⟩ := h
    subst e e2
    by_cases hk : k' = k
    · subst hk
      exact .inl ⟨p, x, by simp [dget], valV_pos rfl, q1⟩
    · rw [valV_neg (by simpa using hk)]
      have : dget ((Sum.inr k', p) :: r) (.inr k) = dget r (.inr k) := by
        have : ¬ (Sum.inr k' : DKey) = .inr k := fun q => hk (Sum.inr.inj q)
        simp [dget, List.find?_cons, this]
      rw [this]
      exact repT_get k q2
/-- what a dict has at a key -/
theorem get_ok {t : Bool} {kvs : List (DKey × PV)} {v : V} {p : PV} {x : V} {k : DKey} (sub : Sub W H) (h : RH K cl W H v (.dic t kvs)) (e : keyOf p = some k) (hx : Rep K cl W p x) (hk : (kindOf k == t) = true) :
    ∃ a o, v = .ref a ∧ DGet H a x o ∧ ((∃ q y, dget kvs k = some q ∧ o = some y ∧ Rep K cl W q y) ∨ (dget kvs k = none ∧ o = none)) := by
  rcases keyOf_rep sub e hx with ⟨k', ek, ex⟩ | ⟨ks, b, ek, ex, hb⟩
  · subst ek ex
    cases t with
    | true => simp [kindOf] at hk
    | false =>
      obtain ⟨a, l, ea, h, r⟩ := h
      refine ⟨a, valV l k', ea, .inl ⟨l, k', h, rfl, rfl⟩, ?_⟩
      rcases repK_get k' r with ⟨p', y, e1, e2, e3⟩ | ⟨e1, e2⟩
      · exact .inl ⟨p', y, e1, e2, e3⟩
      · exact .inr ⟨e1, e2⟩
  · subst ek ex
    cases t with
    | false => simp [kindOf] at hk
    | true =>
      obtain ⟨a, l, ea, h, r⟩ := h
      refine ⟨a, valV l ks, ea, .inr ⟨l, ks, b, h, rfl, hb, rfl⟩, ?_⟩
      rcases repT_get ks r with ⟨p', y, e1, e2, e3⟩ | ⟨e1, e2⟩
      · exact .inl ⟨p', y, e1, e2, e3⟩
      · exact .inr ⟨e1, e2⟩
end
end Lk

namespace Lk
open PySem L2 PySem.Spec PyProof.Rows
section
variable (K : PySem.W.Frag) (cl : String → Option Addr)
def r2b (f : PV → PV → Option Bool) : R2 := fun x y H Q => ∃ W p q res, Sub W H ∧ RH K cl W H x p ∧ RH K cl W H y q ∧ f p q = some res ∧ Q (.bl res) H
end
section
variable {X : Cx} {cl : String → Option Addr}
theorem cmpO_ok {op : Cop} {pins : List (Addr × Obj)} {s : Shared} {σ : L2.St} {H : Hp} {x y : V} {p q : PV} {v u : Value} {Q : VK} {W : Wd} {b : Bool} (I : Inv X pins σ H s) (rx : RelV x v) (ry : RelV y u) (hp : RH X.K cl W H x p) (hq : RH X.K cl W H y q)
    (h : op = .lt ∨ op = .le ∨ op = .gt ∨ op = .ge)
    (e : ordP op p q = some b) (k : Q (.bl b) H) : wpAny (model X.prog X.w) X.A (compareOp (toC op) v u) (EP X pins σ Q) X.xe s := by
  cases p with
  | int i =>
    cases q with
    | int j =>
      unfold RH Rep at hp hq
      subst hp hq
      rcases h with h | h | h | h <;> subst h <;> cases e
      · exact op_lt pins s σ H _ _ v u Q I rx ry ⟨i, j, rfl, rfl, k⟩
      · exact op_le pins s σ H _ _ v u Q I rx ry ⟨i, j, rfl, rfl, k⟩
      · exact op_gt pins s σ H _ _ v u Q I rx ry ⟨i, j, rfl, rfl, k⟩
      · exact op_ge pins s σ H _ _ v u Q I rx ry ⟨i, j, rfl, rfl, k⟩
    | _ => cases e
  | str i =>
    cases q with
    | str j =>
      unfold RH Rep at hp hq
      subst hp hq
      rcases h with h | h | h | h <;> subst h <;> cases e
      · exact op_lt_str pins s σ H _ _ v u Q I rx ry ⟨_, _, rfl, rfl, by rw [ltL_eq] at k; exact k⟩
      · exact op_le_str pins s σ H _ _ v u Q I rx ry ⟨_, _, rfl, rfl, by rw [ltL_eq] at k; exact k⟩
      · exact op_gt_str pins s σ H _ _ v u Q I rx ry ⟨_, _, rfl, rfl, by rw [ltL_eq] at k; exact k⟩
      · exact op_ge_str pins s σ H _ _ v u Q I rx ry ⟨_, _, rfl, rfl, by rw [ltL_eq] at k; exact k⟩
    | _ => cases e
  | _ => cases e
theorem in_ok (hu : X.A.units + 65 < cLine) (neg : Bool) {pins : List (Addr × Obj)} {s : Shared} {σ : L2.St} {H : Hp} {x y : V} {p q : PV} {v u : Value} {Q : VK} {W : Wd} {b : Bool} (sub : Sub W H) (I : Inv X pins σ H s) (rx : RelV x v) (ry : RelV y u) (hp : RH X.K cl W H x p) (hq : RH X.K cl W H y q)
    (e : inP p q = some b) (k : Q (.bl (if neg then !b else b)) H) : wpAny (model X.prog X.w) X.A (compareOp (if neg then .NotIn else .In) v u) (EP X pins σ Q) X.xe s := by
  have flat : ∀ {a : Addr} {xs : List V} {ps : List PV}, y = .ref a → (SqL X.K H a xs ∨ SqT X.K H a xs) → RepL X.K cl W ps xs → (if flatP p && ps.all flatP then some (ps.any fun z => eqP z p) else none) = some b →
      wpAny (model X.prog X.w) X.A (compareOp (if neg then .NotIn else .In) v u) (EP X pins σ Q) X.xe s := by
    intro a xs ps ey hs r e'
    split at e'
    · rename_i hf
      simp only [Bool.and_eq_true] at hf
      cases e'
      have hx := flatP_rep hf.1 hp
      have ea := flat_any hf.1 hx hf.2 r
      cases neg with
      | true => exact op_notIn_seq pins s σ H _ _ v u Q I rx ry ⟨a, xs, ey, hs, flat_v hf.1 hx, flat_all hf.2 r, by rw [ea]; exact k⟩
      | false => exact op_in_seq pins s σ H _ _ v u Q I rx ry ⟨a, xs, ey, hs, flat_v hf.1 hx, flat_all hf.2 r, by rw [ea]; exact k⟩
    · cases e'
  cases q with
  | tup ps =>
    have hq' : Rep X.K cl W (.tup ps) y := hq
    unfold Rep at hq'
    obtain ⟨a, xs, ey, ea, ra⟩ := hq'
    exact flat ey (.inr (.of (sub _ _ ea))) ra e
  | ktp ps =>
    have hq' : Rep X.K cl W (.ktp ps) y := hq
    unfold Rep at hq'
    obtain ⟨a, xs, ey, ea, ra⟩ := hq'
    exact flat ey (.inr (sqt_mono sub ea)) ra e
  | lst ps =>
    have e' : (if flatP p && ps.all flatP then some (ps.any fun z => eqP z p) else if eqOk p (.lst ps) then some (ps.any fun z => eqP z p) else none) = some b := e
    by_cases hf : (flatP p && ps.all flatP) = true
    · obtain ⟨a, xs, ey, ea, ra⟩ := hq
      rw [if_pos hf] at e'
      exact flat ey (.inl (.of ea)) ra (by rw [if_pos hf]; exact e')
    · rw [if_neg hf] at e'
      split at e'
      · rename_i ho
        cases e'
        unfold eqOk at ho
        simp only [Bool.and_eq_true] at ho
        have d1 := rh_dp sub (dataOk_d ho.1) hp
        have d2 := rh_dp sub (dataOk_d ho.2) hq
        have ea := toDs_any (dataOk_d ho.1) (dataOk_l ho.2)
        have e3 : toD (.lst ps) = .list (toDs ps) := by unfold toD; rfl
        have s2 := shaped_of ho.2
        rw [e3] at d2 s2
        cases neg with
        | true => exact op_notInD hu pins s σ H _ _ v u Q I rx ry ⟨_, _, d1, d2, shaped_of ho.1, s2, by rw [ea]; exact k⟩
        | false => exact op_inD hu pins s σ H _ _ v u Q I rx ry ⟨_, _, d1, d2, shaped_of ho.1, s2, by rw [ea]; exact k⟩
      · cases e'
  | str z =>
    cases p with
    | str c =>
      have hq' : Rep X.K cl W (.str z) y := hq
      have hp' : Rep X.K cl W (.str c) x := hp
      unfold Rep at hp' hq'
      subst hp' hq'
      match c, e with
      | [c], e =>
        cases e
        cases neg with
        | true => exact op_notIn_sign pins s σ H _ _ v u Q I rx ry ⟨c, _, rfl, rfl, k⟩
        | false => exact op_in_sign pins s σ H _ _ v u Q I rx ry ⟨c, _, rfl, rfl, k⟩
    | _ => cases e
  | dic t kvs =>
    have e' : ((keyOf p).bind fun k => if kindOf k == t then some (dget kvs k).isSome else none) = some b := e
    obtain ⟨ky, e1, e2⟩ := Option.bind_eq_some_iff.mp e'
    split at e2
    · rename_i hk
      cases e2
      have hx : Rep X.K cl W p x := by cases p <;> first | exact hp | cases e1
      obtain ⟨a, o, ey, g, hg⟩ := get_ok sub hq e1 hx hk
      subst ey
      cases (show u = Value.ref a from ry)
      have eo : o.isSome = (dget kvs ky).isSome := by
        rcases hg with ⟨q', y', h1, h2, _⟩ | ⟨h1, h2⟩
        · rw [h1, h2]; rfl
        · rw [h1, h2]; rfl
      cases neg with
      | true => exact d_notIn (by omega) I g rx fun s3 I3 => ⟨.bl _, H, I3, rfl, by rw [eo]; exact k⟩
      | false => exact d_in (by omega) I g rx fun s3 I3 => ⟨.bl _, H, I3, rfl, by rw [eo]; exact k⟩
    · cases e2
  | _ => cases e
theorem is_ok (neg : Bool) {pins : List (Addr × Obj)} {s : Shared} {σ : L2.St} {H : Hp} {x y : V} {p q : PV} {v u : Value} {Q : VK} {W : Wd} {b : Bool} (I : Inv X pins σ H s) (rx : RelV x v) (ry : RelV y u) (hp : RH X.K cl W H x p) (hq : RH X.K cl W H y q)
    (e : isP p q = some b) (k : Q (.bl (if neg then !b else b)) H) : wpAny (model X.prog X.w) X.A (compareOp (if neg then .IsNot else .Is) v u) (EP X pins σ Q) X.xe s := by
  have non : y = .non → decide (x = .non) = b → wpAny (model X.prog X.w) X.A (compareOp (if neg then .IsNot else .Is) v u) (EP X pins σ Q) X.xe s := by
    intro ey eb
    cases neg with
    | true => exact op_notN pins s σ H _ _ v u Q I rx ry ⟨ey, by rw [eb]; exact k⟩
    | false => exact op_isN pins s σ H _ _ v u Q I rx ry ⟨ey, by rw [eb]; exact k⟩
  cases q with
  | non =>
    have ey : y = .non := by unfold RH Rep at hq; exact hq
    refine non ey ?_
    cases p with
    | non => unfold RH Rep at hp; subst hp; cases e; rfl
    | bl _ => unfold RH Rep at hp; subst hp; cases e; rfl
    | int _ => unfold RH Rep at hp; subst hp; cases e; rfl
    | str _ => unfold RH Rep at hp; subst hp; cases e; rfl
    | tup _ => unfold RH Rep at hp; obtain ⟨a, _, ex, _⟩ := hp; subst ex; cases e; rfl
    | lst _ => obtain ⟨a, _, ex, _⟩ := hp; subst ex; cases e; rfl
    | dic t _ => cases t <;> (obtain ⟨a, _, ex, _⟩ := hp; subst ex; cases e; rfl)
    | ins _ _ => obtain ⟨a, _, _, _, ex, _⟩ := hp; subst ex; cases e; rfl
    | ref _ => exact False.elim hp
    | scr _ => unfold RH Rep at hp; obtain ⟨a, ex, _⟩ := hp; subst ex; cases e; rfl
    | ktp _ => unfold RH Rep at hp; obtain ⟨a, _, ex, _⟩ := hp; subst ex; cases e; rfl
  | bl c =>
    have ey : y = .bl c := by unfold RH Rep at hq; exact hq
    cases p with
    | bl d =>
      have ex : x = .bl d := by unfold RH Rep at hp; exact hp
      cases e
      cases neg with
      | true => exact op_notBl pins s σ H _ _ v u Q I rx ry ⟨d, c, ex, ey, by rw [← Bool.beq_eq_decide_eq]; exact k⟩
      | false => exact op_isBl pins s σ H _ _ v u Q I rx ry ⟨d, c, ex, ey, by rw [← Bool.beq_eq_decide_eq]; exact k⟩
    | _ => cases e
  | _ => cases e
theorem eq_ok (hu : X.A.units + 65 < cLine) (neg : Bool) {pins : List (Addr × Obj)} {s : Shared} {σ : L2.St} {H : Hp} {x y : V} {p q : PV} {v u : Value} {Q : VK} {W : Wd} (sub : Sub W H) (I : Inv X pins σ H s) (rx : RelV x v) (ry : RelV y u) (hp : RH X.K cl W H x p) (hq : RH X.K cl W H y q)
    (e : (scalP p q || eqOk p q) = true) (k : Q (.bl (if neg then !eqP p q else eqP p q)) H) : wpAny (model X.prog X.w) X.A (compareOp (if neg then .NotEq else .Eq) v u) (EP X pins σ Q) X.xe s := by
  by_cases hs : scalP p q = true
  · obtain ⟨h1, h2⟩ := rep_eq_scal hs hp hq
    cases neg with
    | true => exact op_ne pins s σ H _ _ v u Q I rx ry ⟨h1, by rw [h2]; exact k⟩
    | false => exact op_eq pins s σ H _ _ v u Q I rx ry ⟨h1, by rw [h2]; exact k⟩
  · have ho : eqOk p q = true := by simpa [hs] using e
    unfold eqOk at ho
    simp only [Bool.and_eq_true] at ho
    have d1 := rh_dp sub (dataOk_d ho.1) hp
    have d2 := rh_dp sub (dataOk_d ho.2) hq
    have ea := eqv_of p q (dataOk_d ho.1) (dataOk_d ho.2)
    cases neg with
    | true => exact op_neD (by omega) pins s σ H _ _ v u Q I rx ry ⟨_, _, d1, d2, shaped_of ho.1, shaped_of ho.2, by rw [ea]; exact k⟩
    | false => exact op_eqD (by omega) pins s σ H _ _ v u Q I rx ry ⟨_, _, d1, d2, shaped_of ho.1, shaped_of ho.2, by rw [ea]; exact k⟩
theorem cmp_ok (hu : X.A.units + 65 < cLine) {op : Cop} : OpR X (compareOp (toC op)) (r2b X.K cl (cmpP op)) := by
  intro pins s σ H x y v u Q I rx ry h
  obtain ⟨W, p, q, res, sub, hp, hq, e, k⟩ := h
  cases op with
  | eq =>
    have e' : (if (scalP p q || eqOk p q) = true then some (eqP p q) else none) = some res := e
    split at e'
    · rename_i h; cases e'; exact eq_ok hu false sub I rx ry hp hq h k
    · cases e'
  | ne =>
    have e' : (if (scalP p q || eqOk p q) = true then some (!eqP p q) else none) = some res := e
    split at e'
    · rename_i h; cases e'; exact eq_ok hu true sub I rx ry hp hq h k
    · cases e'
  | is => exact is_ok false I rx ry hp hq e k
  | isn =>
    have e' : (isP p q).map (!·) = some res := e
    obtain ⟨b, e1, e2⟩ := Option.map_eq_some_iff.mp e'
    subst e2
    exact is_ok true I rx ry hp hq e1 k
  | in_ => exact in_ok hu false sub I rx ry hp hq e k
  | nin =>
    have e' : (inP p q).map (!·) = some res := e
    obtain ⟨b, e1, e2⟩ := Option.map_eq_some_iff.mp e'
    subst e2
    exact in_ok hu true sub I rx ry hp hq e1 k
  | lt => exact cmpO_ok I rx ry hp hq (.inl rfl) e k
  | le => exact cmpO_ok I rx ry hp hq (.inr (.inl rfl)) e k
  | gt => exact cmpO_ok I rx ry hp hq (.inr (.inr (.inl rfl))) e k
  | ge => exact cmpO_ok I rx ry hp hq (.inr (.inr (.inr rfl))) e k

/-! ### truth -/
def rTru (K : PySem.W.Frag) (cl : String → Option Addr) : V → Hp → (Bool → Hp → Prop) → Prop := fun x H Q => ∃ W p b, Sub W H ∧ RH K cl W H x p ∧ truthy p = some b ∧ Q b H
theorem tru_okP : TruR X (rTru X.K cl) := by
  intro pins s σ H x v Q I rx h
  obtain ⟨W, p, b, sub, hp, e, k⟩ := h
  cases p with
  | non => unfold RH Rep at hp; subst hp; cases e; exact tru_ok pins s σ H _ v Q I rx ⟨_, rfl, k⟩
  | bl c => unfold RH Rep at hp; subst hp; cases e; exact tru_ok pins s σ H _ v Q I rx ⟨_, rfl, k⟩
  | int c => unfold RH Rep at hp; subst hp; cases e; exact tru_ok pins s σ H _ v Q I rx ⟨_, rfl, k⟩
  | str c =>
    unfold RH Rep at hp; subst hp
    have e' : (if c.length ≤ SL then some (!c.isEmpty) else none) = some b := e
    split at e'
    · rename_i hl
      cases e'
      refine tru_ok pins s σ H _ v Q I rx ⟨_, ⟨by rw [str_len, ← SL_eq]; exact hl, rfl⟩, ?_⟩
      have : (((⟨c.toArray⟩ : Str).length : Int) != 0) = !c.isEmpty := by
        rw [str_len]
        cases c with
        | nil => rfl
        | cons a r => simp; omega
      rw [this]; exact k
    · cases e'
  | tup ps =>
    have hp' : Rep X.K cl W (.tup ps) x := hp
    unfold Rep at hp'
    obtain ⟨a, xs, ex, ea, ra⟩ := hp'
    subst ex
    cases e
    refine tru_ok pins s σ H _ v Q I rx ⟨_, .inr (.inl ⟨xs, .of (sub _ _ ea), rfl⟩), ?_⟩
    have : xs.isEmpty = ps.isEmpty := by
      have := ra.length
      cases ps <;> cases xs <;> simp_all
    rw [this]; exact k
  | lst ps =>
    obtain ⟨a, xs, ex, ea, ra⟩ := hp
    subst ex
    cases e
    refine tru_ok pins s σ H _ v Q I rx ⟨_, .inl ⟨xs, .of ea, rfl⟩, ?_⟩
    have : xs.isEmpty = ps.isEmpty := by
      have := ra.length
      cases ps <;> cases xs <;> simp_all
    rw [this]; exact k
  | dic t kvs =>
    cases t with
    | true => cases e
    | false =>
      obtain ⟨a, l, ex, ea, ra⟩ := hp
      subst ex
      cases (show v = Value.ref a from rx)
      cases e
      have : l.isEmpty = kvs.isEmpty := by
        cases kvs with
        | nil => unfold RepK at ra; subst ra; rfl
        | cons e r =>
          obtain ⟨k0, p0⟩ := e
          unfold RepK at ra
          obtain ⟨_, _, _, e1, _⟩ := ra
          subst e1; rfl
      refine d_truth I ea fun s' I' => ⟨H, I', by rw [this]; exact k⟩
  | _ => cases e

/-! ### subscripts -/
theorem ixN_eq (n : Nat) (i : Int) : ixN n i = ixN' n i := rfl
theorem atI_rep {ps : List PV} {xs : List V} {W : Wd} {K : PySem.W.Frag} {i : Int} {p : PV} (r : RepL K cl W ps xs) (e : (ixN' ps.length i).bind (ps[·]?) = some p) : ∃ x, atI xs i = some x ∧ Rep K cl W p x := by
  obtain ⟨j, e1, e2⟩ := Option.bind_eq_some_iff.mp e
  obtain ⟨x, h1, h2⟩ := r.get e2
  refine ⟨x, ?_, h2⟩
  unfold atI
  rw [← r.length, ixN_eq, e1]
  exact h1
def rIdx (K : PySem.W.Frag) (cl : String → Option Addr) : R2 := fun x y H Q => ∃ W p k q, Sub W H ∧ RH K cl W H x p ∧ Rep K cl W k y ∧ idxP p k = some q ∧ ∀ v, Rep K cl W q v → Q v H
theorem ix_dict (hu : X.A.units + 65 < cLine) : IxR X (fun x y H Q => ∃ a o, x = .ref a ∧ DGet H a y (some o) ∧ Q o H) := by
  intro value slice pins s σ H x y v u Q I rx ry h hs
  obtain ⟨a, o, ex, g, q⟩ := h
  subst ex
  cases (show v = Value.ref a from rx)
  unfold subscriptTail
  have hT := dict_typeIs I g
  refine wpAny_bind ?_
  rw [getitemInPython_of_ne hT.not_modules]
  refine wpAny_bind (wpAny_specialOf hT PySem.F.slot_dict_getitem.lookup ?_)
  have fin : wpAny (model X.prog X.w) X.A (subscripted slice false (.ref a) u) (fun r s₃ => wpAny (model X.prog X.w) X.A (letTemporaryGo value (.ref a) r >>= fun _ => pure r) (EP X pins σ Q) X.xe s₃) X.xe s := by
    rw [hs]
    exact wpAny_operating (wpAny_mono (d_getItem (by omega) I g ry fun w' s3 I3 rw' => (show EP X pins σ Q w' s3 from ⟨o, H, I3, rw', q⟩)) (fun r s₃ h₃ => wpAny_bind (wpAny_letTemporaryGo (wpAny_pure h₃))) fun _ _ x => x)
  first
    | exact wpAny_pure (wpAny_bind fin)
    | exact wpAny_bind (wpAny_pure (wpAny_bind fin))
    | exact wpAny_bind fin
theorem idx_ok (hu : X.A.units + 65 < cLine) : IxR X (rIdx X.K cl) := by
  intro value slice pins s σ H x y v u Q I rx ry h hs
  obtain ⟨W, p, k, q, sub, hp, hk, e, c⟩ := h
  cases p with
  | tup ps =>
    cases k with
    | int i =>
      have hp' : Rep X.K cl W (.tup ps) x := hp
      unfold Rep at hp' hk
      obtain ⟨a, xs, ex, ea, ra⟩ := hp'
      obtain ⟨z, h1, h2⟩ := atI_rep ra (show (ixN' ps.length i).bind (ps[·]?) = some q from e)
      exact ix_tup value slice pins s σ H x y v u Q I rx ry ⟨a, xs, i, z, ex, hk, .of (sub _ _ ea), h1, c _ h2⟩ hs
    | _ => cases e
  | ktp ps =>
    cases k with
    | int i =>
      have hp' : Rep X.K cl W (.ktp ps) x := hp
      unfold Rep at hp' hk
      obtain ⟨a, xs, ex, ea, ra⟩ := hp'
      obtain ⟨z, h1, h2⟩ := atI_rep ra (show (ixN' ps.length i).bind (ps[·]?) = some q from e)
      exact ix_tup value slice pins s σ H x y v u Q I rx ry ⟨a, xs, i, z, ex, hk, sqt_mono sub ea, h1, c _ h2⟩ hs
    | _ => cases e
  | lst ps =>
    cases k with
    | int i =>
      unfold Rep at hk
      obtain ⟨a, xs, ex, ea, ra⟩ := hp
      obtain ⟨z, h1, h2⟩ := atI_rep ra (show (ixN' ps.length i).bind (ps[·]?) = some q from e)
      exact ix_list value slice pins s σ H x y v u Q I rx ry ⟨a, xs, i, z, ex, hk, .of ea, h1, c _ h2⟩ hs
    | _ => cases e
  | str z =>
    cases k with
    | int i =>
      have hp' : Rep X.K cl W (.str z) x := hp
      unfold Rep at hp' hk
      have e' : (if z.length ≤ SL then (ixN' z.length i).bind fun j => (z[j]?).map fun c => PV.str [c] else none) = some q := e
      split at e'
      · rename_i hl
        obtain ⟨j, e1, e2⟩ := Option.bind_eq_some_iff.mp e'
        obtain ⟨ch, e3, e4⟩ := Option.map_eq_some_iff.mp e2
        subst e4
        refine ix_str value slice pins s σ H x y v u Q I rx ry ⟨⟨z.toArray⟩, i, ch, hp', hk, by rw [str_len, ← SL_eq]; exact hl, ?_, c _ (by unfold Rep; rfl)⟩ hs
        show (ixN z.toArray.toList.length i).bind (fun j => z.toArray.toList[j]?) = some ch
        rw [List.toList_toArray, ixN_eq, e1]
        exact e3
      · cases e'
    | _ => cases e
  | dic t kvs =>
    have e' : ((keyOf k).bind fun k => if kindOf k == t then dget kvs k else none) = some q := by cases k <;> exact e
    obtain ⟨ky, e1, e2⟩ := Option.bind_eq_some_iff.mp e'
    split at e2
    · rename_i hk2
      obtain ⟨a, o, ex, g, hg⟩ := get_ok sub hp e1 hk hk2
      rcases hg with ⟨q', y', h1, h2, h3⟩ | ⟨h1, h2⟩
      · rw [e2] at h1; cases h1
        subst h2
        exact ix_dict hu value slice pins s σ H x y v u Q I rx ry ⟨a, y', ex, g, c _ h3⟩ hs
      · rw [e2] at h1; cases h1
    · cases e2
  | _ => cases k <;> cases e

/-! ### slices -/
theorem sIx_eq (n d : Nat) (o : Option Int) : HT.sIx n d o = sIx' n d o := by
  cases o <;> rfl
theorem cut_rep {ps : List PV} {xs : List V} {W : Wd} {K : PySem.W.Frag} (r : RepL K cl W ps xs) (lo hi : Option Int) : RepL K cl W (cut' ps lo hi) (cutV xs lo hi) := by
  unfold cut' cutV
  rw [← r.length, sIx_eq, sIx_eq]
  exact (r.drop _).take _
def rSlc (K : PySem.W.Frag) (cl : String → Option Addr) : V → Option Int → Option Int → Hp → VK → Prop := fun x lo hi H Q => ∃ W p res, Sub W H ∧ RH K cl W H x p ∧ slcP p lo hi = some res ∧ ∀ v H', New K cl W H H' v res → Q v H'
theorem cut_ints (ns : List Int) (lo hi : Option Int) : cutV (ns.map V.int) lo hi = (cut' ns lo hi).map V.int := by
  unfold cut' cutV
  rw [List.length_map, sIx_eq, sIx_eq, List.map_take, List.map_drop]
theorem cut_strs (z : List Nat) (lo hi : Option Int) : cutS ⟨z.toArray⟩ lo hi = ⟨(cut' z lo hi).toArray⟩ := by
  unfold cutS cut'
  simp [Str.length, sIx_eq]
theorem slc_ok : SlR X (rSlc X.K cl) := by
  intro pins s σ H x v vl vu lo hi sl Q I rx hs pl pu h
  obtain ⟨W, p, res, sub, hp, e, c⟩ := h
  cases p with
  | tup ps =>
    have hp' : Rep X.K cl W (.tup ps) x := hp
    unfold Rep at hp'
    obtain ⟨a, xs, ex, ea, ra⟩ := hp'
    cases e
    refine sl_tupA pins s σ H x v vl vu lo hi sl Q I rx hs pl pu ⟨a, xs, ex, .of (sub _ _ ea), fun hw => ?_, fun hw p hn => ?_⟩
    · have : cut' ps lo hi = ps := by
        unfold cut'
        rw [sIx_eq, sIx_eq, ← ra.length] at hw
        rw [hw.1, hw.2]
        simp
      rw [this] at c
      exact c _ _ (.inl ⟨rfl, rfl, by rw [← ex]; exact hp⟩)
    · exact c _ _ (.inr ⟨p, _, rfl, hn, rfl, ⟨_, rfl, cut_rep ra lo hi⟩, .inr ⟨rfl, rfl⟩⟩)
  | lst ps =>
    obtain ⟨a, xs, ex, ea, ra⟩ := hp
    cases e
    exact sl_list pins s σ H x v vl vu lo hi sl Q I rx hs pl pu ⟨a, xs, ex, .of ea, fun p hn => c _ _ (.inr ⟨p, _, rfl, hn, rfl, ⟨_, rfl, cut_rep ra lo hi⟩, .inl ⟨rfl, rfl⟩⟩)⟩
  | scr ns =>
    have hp' : Rep X.K cl W (.scr ns) x := hp
    unfold Rep at hp'
    obtain ⟨a, ex, ea⟩ := hp'
    cases e
    refine sl_list pins s σ H x v vl vu lo hi sl Q I rx hs pl pu ⟨a, _, ex, sql_mono sub ea, fun p hn => ?_⟩
    rw [cut_ints]
    exact c _ _ (.inr ⟨p, _, rfl, hn, rfl, ⟨_, rfl, RepL.of_ints⟩, .inl ⟨rfl, rfl⟩⟩)
  | str z =>
    have hp' : Rep X.K cl W (.str z) x := hp
    unfold Rep at hp'
    have e' : (if z.length ≤ SL then some (PV.str (cut' z lo hi), false) else none) = some res := e
    split at e'
    · rename_i hl
      cases e'
      refine sl_str pins s σ H x v vl vu lo hi sl Q I rx hs pl pu ⟨_, hp', by rw [str_len, ← SL_eq]; exact hl, ?_⟩
      rw [cut_strs]
      exact c _ _ new_str
    · cases e'
  | _ => cases e
end
end Lk

namespace Lk
open PySem L2 PySem.Spec PyProof.Rows
def primV : Prim → Value
  | .len => .builtin "len" | .int => .type "int" | .str => .type "str" | .tuple => .type "tuple" | .list => .type "list" | .sorted => .builtin "sorted" | .all => .builtin "all" | .any => .builtin "any"
  | .sum => .builtin "sum" | .max => .builtin "max" | .min => .builtin "min" | .abs => .builtin "abs"
def rPrm (K : PySem.W.Frag) (cl : String → Option Addr) (f : List PV → Option (PV × Bool)) : List V → Hp → VK → Prop := fun vs H Q => ∃ W ps res, Sub W H ∧ RHL K cl W H vs ps ∧ f ps = some res ∧ ∀ v H', New K cl W H H' v res → Q v H'
section
variable {K : PySem.W.Frag} {cl : String → Option Addr} {W : Wd} {H : Hp}
theorem rhl1 {vs : List V} {p : PV} (h : RHL K cl W H vs [p]) : ∃ v, vs = [v] ∧ RH K cl W H v p := by
  match vs, h with
  | [v], h => exact ⟨v, rfl, h.1⟩
  | [], h => exact h.elim
  | _ :: _ :: _, h => exact h.2.elim
theorem rhl2 {vs : List V} {p q : PV} (h : RHL K cl W H vs [p, q]) : ∃ v w, vs = [v, w] ∧ RH K cl W H v p ∧ RH K cl W H w q := by
  match vs, h with
  | [v, w], h => exact ⟨v, w, rfl, h.1, h.2.1⟩
  | [], h => exact h.elim
  | [_], h => exact h.2.elim
  | _ :: _ :: _ :: _, h => exact h.2.2.elim
theorem repK_keys : ∀ {kvs : List (DKey × PV)} {l : List (Key × V)}, RepK K cl W kvs l → RepL K cl W (kvs.map fun e => pvD e.1) (l.map fun kv => kV kv.1) ∧ kvs.length = l.length
  | [], l, h => by unfold RepK at h; subst h; exact ⟨.nil, rfl⟩
  | (k, p) :: r, l, h => by
    unfold RepK at h
    obtain ⟨k', x, t, e, e2, q1, q2⟩ := h
    subst e e2
    obtain ⟨h1, h2⟩ := repK_keys q2
    refine ⟨.cons ?_ h1, by simp [h2]⟩
    cases k' with
    | inl i => unfold pvD pvK Rep; rfl
    | inr z => unfold pvD pvK Rep; simp [kV]
theorem repT_len : ∀ {kvs : List (DKey × PV)} {l : List (List Key × V)}, RepT K cl W kvs l → kvs.length = l.length
  | [], l, h => by unfold RepT at h; subst h; rfl
  | (k, p) :: r, l, h => by
    unfold RepT at h
    obtain ⟨k', x, t, e, e2, q1, q2⟩ := h
    subst e e2
    simp [repT_len q2]
/-! sorting -/
theorem insI_perm (x : Int) : ∀ l, (insI x l).Perm (x :: l)
  | [] => .refl _
  | y :: r => by
    unfold insI
    split
    · exact .refl _
    · exact (List.Perm.cons y (insI_perm x r)).trans (List.Perm.swap x y r)
theorem sortI_perm : ∀ l, (sortI l).Perm l
  | [] => .refl _
  | x :: r => (insI_perm x _).trans (List.Perm.cons x (sortI_perm r))
theorem insI_sorted (x : Int) : ∀ {l : List Int}, l.Pairwise (· ≤ ·) → (insI x l).Pairwise (· ≤ ·)
  | [], _ => by simp [insI]
  | y :: r, h => by
    unfold insI
    split
    · rename_i hxy
      refine List.pairwise_cons.mpr ⟨fun z hz => ?_, h⟩
      rcases List.mem_cons.mp hz with e | hz
      · subst e; exact hxy
      · exact Int.le_trans hxy ((List.pairwise_cons.mp h).1 z hz)
    · rename_i hxy
      refine List.pairwise_cons.mpr ⟨fun z hz => ?_, insI_sorted x (List.pairwise_cons.mp h).2⟩
      rcases List.mem_cons.mp ((insI_perm x r).mem_iff.mp hz) with e | hz
      · subst e; omega
      · exact (List.pairwise_cons.mp h).1 z hz
theorem sortI_sorted : ∀ l, (sortI l).Pairwise (· ≤ ·)
  | [] => .nil
  | x :: r => insI_sorted x (sortI_sorted r)
theorem perm_sorted_eq : ∀ {a b : List Int}, a.Perm b → a.Pairwise (· ≤ ·) → b.Pairwise (· ≤ ·) → a = b := fun p h1 h2 =>
  p.eq_of_pairwise (fun x y _ _ hx hy => Int.le_antisymm hx hy) h1 h2
end
/-! texts, any number of them -/
section
variable {prog : Program} {w : World} {A : Around} {s : Shared}
def sv (v : Value) : List Nat := (strOf v).cps.toList
def ltSv (v u : Value) : Bool := decide (sv v < sv u)
theorem lex_asymm : ∀ {a b : List Nat}, a < b → ¬ b < a := fun h h' => List.lt_irrefl _ (List.lt_trans h h')
theorem swo_str : SrtO.Swo ltSv := by
  refine ⟨fun x y h => ?_, fun x y z h1 h2 => ?_⟩
  · have a := of_decide_eq_true (p := sv x < sv y) h
    exact decide_eq_false (p := sv y < sv x) (lex_asymm a)
  · have a := of_decide_eq_false (p := sv y < sv x) h1
    have b := of_decide_eq_false (p := sv z < sv y) h2
    refine decide_eq_false (p := sv z < sv x) fun q => ?_
    have a' : sv x ≤ sv y := a
    have b' : sv y ≤ sv z := b
    have c' : sv x ≤ sv z := List.le_trans a' b'
    exact c' q
theorem str_cmp {vs : List Value} {ns : List Str} (hI : StrsAre vs ns) : SrtO.Cmp prog w A s oneType' (fun p => p.1 ∈ vs) (SrtO.lt2 ltSv) := by
  intro p q hm hm'
  obtain ⟨a, t, e⟩ := hI.all _ hm
  obtain ⟨b, u, e'⟩ := hI.all _ hm'
  show wpAny (model prog w) A (keyLt' oneType' p.1 q.1) (fun r s' => s' = s ∧ r = ltSv p.1 q.1) (fun _ _ => False) s
  rw [e, e', keyLt'_oneType]
  exact oneLt_str ⟨rfl, rfl⟩
theorem strs_sortable {a : Addr} {vs : List Value} {ns : List Str} (hI : StrsAre vs ns) (h2 : 2 ≤ vs.length) : SrtO.SortableO prog w A s a vs ltSv := by
  intro h' _
  refine ⟨oneType', fun Q E hq => ?_, str_cmp hI⟩
  match vs, hI, h2 with
  | v1 :: v2 :: rest, hI, _ =>
    rw [keyKind_strs hI]
    exact wpAny_pure hq
  | [], _, h => exact absurd h (by decide)
  | [v], _, h => exact absurd h (by simp)
theorem strs_out {vs out : List Value} {ns : List Str} (hI : StrsAre vs ns) (hs : SrtO.Srtd ltSv out) (hb : SrtO.Stb ltSv out vs) : StrsAre out (out.map strOf) ∧ (out.map strOf).Perm ns ∧ (out.map strOf).Pairwise (fun x y => ¬ y.cps.toList < x.cps.toList) := by
  refine ⟨strsAre_map _ fun v hv => hI.all v (hb.perm.mem_iff.mp hv), ?_, ?_⟩
  · have q := hb.perm.map strOf
    rw [hI.strs] at q
    exact q
  · exact List.pairwise_map.mpr (hs.imp fun {x y} h => of_decide_eq_false (p := sv y < sv x) h)
end
theorem insS_perm (x : List Nat) : ∀ l, (insS x l).Perm (x :: l)
  | [] => .refl _
  | y :: r => by
    unfold insS
    split
    · exact (List.Perm.cons y (insS_perm x r)).trans (List.Perm.swap x y r)
    · exact .refl _
theorem sortS_perm : ∀ l, (sortS l).Perm l
  | [] => .refl _
  | x :: r => (insS_perm x _).trans (List.Perm.cons x (sortS_perm r))
theorem insS_sorted (x : List Nat) : ∀ {l : List (List Nat)}, l.Pairwise (· ≤ ·) → (insS x l).Pairwise (· ≤ ·)
  | [], _ => by simp [insS]
  | y :: r, h => by
    unfold insS
    rw [ltL_eq]
    split
    · rename_i hxy
      have hyx : y < x := of_decide_eq_true hxy
      refine List.pairwise_cons.mpr ⟨fun z hz => ?_, insS_sorted x (List.pairwise_cons.mp h).2⟩
      rcases List.mem_cons.mp ((insS_perm x r).mem_iff.mp hz) with e | hz
      · subst e; exact List.le_of_lt hyx
      · exact (List.pairwise_cons.mp h).1 z hz
    · rename_i hxy
      have hyx : x ≤ y := fun q => hxy (decide_eq_true q)
      refine List.pairwise_cons.mpr ⟨fun z hz => ?_, h⟩
      rcases List.mem_cons.mp hz with e | hz
      · subst e; exact hyx
      · exact List.le_trans hyx ((List.pairwise_cons.mp h).1 z hz)
theorem sortS_sorted : ∀ l, (sortS l).Pairwise (· ≤ ·)
  | [] => .nil
  | x :: r => insS_sorted x (sortS_sorted r)
theorem perm_sortedS_eq {a b : List (List Nat)} (p : a.Perm b) (h1 : a.Pairwise (· ≤ ·)) (h2 : b.Pairwise (· ≤ ·)) : a = b :=
  p.eq_of_pairwise (fun x y _ _ hx hy => List.le_antisymm hx hy) h1 h2
section
variable {X : Cx}
/-- sorted(xs), texts -/
theorem cr_sortedT' : CallR X (.builtin "sorted") (fun vs H Q => ∃ (a : Addr) (ss : List (List Nat)), vs = [V.ref a] ∧ SqL X.K H a (ss.map fun s => V.str ⟨s.toArray⟩) ∧
    ∀ p, H p = none → Q (.ref p) (upd H p (.lst ((sortS ss).map fun s => V.str ⟨s.toArray⟩)))) := by
  intro pins s σ H vs us Q I r h
  obtain ⟨a, ss, rfl, hs, q⟩ := h
  have em : (ss.map fun s => V.str ⟨s.toArray⟩) = (ss.map fun s => (⟨s.toArray⟩ : Str)).map V.str := by rw [List.map_map]; rfl
  rw [em] at hs
  obtain ⟨its, rv, hl, hz⟩ := I.list hs
  rw [Vals.ref1 r]
  have hi := rv.strs
  refine SrtO.sorted_ord swo_str hl.isList (by rw [← rv.length]; exact hz) (fun h2 h₁ a' _ _ => strs_sortable hi h2) fun out h1 h2 => ?_
  obtain ⟨k1, k2, k3⟩ := strs_out hi h1 h2
  obtain ⟨ep, he'⟩ := PyProof.Rows.sortedAll_at s.heap its out.toArray
  have eo : out.map strOf = (sortS ss).map fun s => (⟨s.toArray⟩ : Str) := by
    have e1 : (out.map strOf).map (fun z => z.cps.toList) = sortS ss := by
      refine perm_sortedS_eq ?_ ?_ (sortS_sorted ss)
      · have p1 := k2.map (fun z : Str => z.cps.toList)
        have e2 : (ss.map fun s => (⟨s.toArray⟩ : Str)).map (fun z => z.cps.toList) = ss := by
          rw [List.map_map]
          conv => rhs; rw [← List.map_id ss]
          exact List.map_congr_left fun x _ => by simp
        rw [e2] at p1
        exact p1.trans (sortS_perm ss).symm
      · exact List.pairwise_map.mpr (k3.imp fun {x y} h => h)
    rw [← e1, List.map_map]
    conv => lhs; rw [← List.map_id (out.map strOf)]
    exact List.map_congr_left fun x _ => by simp
  have hlen : ((out.map strOf).map V.str).length ≤ sizeLine := by
    rw [List.length_map, k2.length_eq]
    rw [List.length_map] at hz
    exact hz
  have q' := q _ (I.hok.fresh (a := s.heap.objs.size + 1) (Nat.le_succ _))
  have e3 : ((sortS ss).map fun s => V.str ⟨s.toArray⟩) = (out.map strOf).map V.str := by rw [eo, List.map_map]; rfl
  rw [e3] at q'
  exact ⟨.ref _, upd H (s.heap.objs.size + 1) (.lst ((out.map strOf).map V.str)), I.laid (t' := s.toks) (fun _ _ => PyProof.Rows.sortedAll_old) (Nat.le_succ _) ⟨hlen, out, ep, vals_of_strs k1, he'⟩, rfl, q'⟩
end
end Lk

namespace Lk
open PySem L2 PySem.Spec PyProof.Rows
section
variable {X : Cx} {cl : String → Option Addr}
theorem dig_text : ∀ c : Nat, 48 ≤ c → c ≤ 57 → PySem.intText? (⟨[c].toArray⟩ : Str) = some ((c - 48 : Nat) : Int) := by
  have h : ∀ c : Fin 10, PySem.intText? (⟨[c.val + 48].toArray⟩ : Str) = some ((c.val : Nat) : Int) := by decide +kernel
  intro c h1 h2
  have := h ⟨c - 48, by omega⟩
  simp only at this
  rw [show c - 48 + 48 = c by omega] at this
  exact this
theorem maxL_spec : ∀ (r : List Int) (m : Int), maxL m r ∈ m :: r ∧ ∀ y ∈ m :: r, y ≤ maxL m r
  | [], m => by simp [maxL]
  | x :: r, m => by
    unfold maxL
    have hs := maxL_spec r (if m < x then x else m)
    by_cases h : m < x
    · rw [if_pos h] at hs ⊢
      obtain ⟨h1, h2⟩ := hs
      have hb := h2 x List.mem_cons_self
      refine ⟨List.mem_cons_of_mem _ h1, fun y hy => ?_⟩
      rcases List.mem_cons.mp hy with e | hy
      · subst e; omega
      · exact h2 y hy
    · rw [if_neg h] at hs ⊢
      obtain ⟨h1, h2⟩ := hs
      have hb := h2 m List.mem_cons_self
      refine ⟨?_, fun y hy => ?_⟩
      · rcases List.mem_cons.mp h1 with e | h1
        · rw [e]; exact List.mem_cons_self
        · exact List.mem_cons_of_mem _ (List.mem_cons_of_mem _ h1)
      · rcases List.mem_cons.mp hy with e | hy
        · subst e; exact hb
        · rcases List.mem_cons.mp hy with e | hy
          · subst e; omega
          · exact h2 y (List.mem_cons_of_mem _ hy)
theorem minL_spec : ∀ (r : List Int) (m : Int), minL m r ∈ m :: r ∧ ∀ y ∈ m :: r, minL m r ≤ y
  | [], m => by simp [minL]
  | x :: r, m => by
    unfold minL
    have hs := minL_spec r (if x < m then x else m)
    by_cases h : x < m
    · rw [if_pos h] at hs ⊢
      obtain ⟨h1, h2⟩ := hs
      have hb := h2 x List.mem_cons_self
      refine ⟨List.mem_cons_of_mem _ h1, fun y hy => ?_⟩
      rcases List.mem_cons.mp hy with e | hy
      · subst e; omega
      · exact h2 y hy
    · rw [if_neg h] at hs ⊢
      obtain ⟨h1, h2⟩ := hs
      have hb := h2 m List.mem_cons_self
      refine ⟨?_, fun y hy => ?_⟩
      · rcases List.mem_cons.mp h1 with e | h1
        · rw [e]; exact List.mem_cons_self
        · exact List.mem_cons_of_mem _ (List.mem_cons_of_mem _ h1)
      · rcases List.mem_cons.mp hy with e | hy
        · subst e; exact hb
        · rcases List.mem_cons.mp hy with e | hy
          · subst e; omega
          · exact h2 y (List.mem_cons_of_mem _ hy)
theorem str_back (z : Str) : (⟨z.cps.toList.toArray⟩ : Str) = z := by simp
theorem keysI : ∀ {l : List (Key × V)} {is : List Int}, (l.map fun kv => kV kv.1) = is.map V.int → l.map (·.1) = is.map Sum.inl
  | [], [], _ => rfl
  | [], _ :: _, h => by simp at h
  | _ :: _, [], h => by simp at h
  | (k, v) :: l, i :: is, h => by
    simp only [List.map_cons, List.cons.injEq] at h ⊢
    refine ⟨?_, keysI h.2⟩
    cases k with
    | inl j => have := h.1; simp only [kV] at this; injection this with this; rw [this]
    | inr z => have := h.1; simp only [kV] at this; cases this
theorem keysS : ∀ {l : List (Key × V)} {is : List (List Nat)}, (l.map fun kv => kV kv.1) = is.map (fun s => V.str ⟨s.toArray⟩) → l.map (·.1) = (is.map fun s => (⟨s.toArray⟩ : Str)).map Sum.inr
  | [], [], _ => rfl
  | [], _ :: _, h => by simp at h
  | _ :: _, [], h => by simp at h
  | (k, v) :: l, i :: is, h => by
    simp only [List.map_cons, List.cons.injEq] at h ⊢
    refine ⟨?_, keysS h.2⟩
    cases k with
    | inl j => have := h.1; simp only [kV] at this; cases this
    | inr z => have := h.1; simp only [kV] at this; injection this with this; rw [this]
theorem risingS_pw : ∀ (p : Str) (l : List Str), risingS p l = true → (p :: l).Pairwise (fun x y => x.cps.toList ≤ y.cps.toList)
  | p, [], _ => by simp
  | p, x :: r, h => by
    have h' : (!ltCps x.cps.toList p.cps.toList && risingS x r) = true := h
    simp only [Bool.and_eq_true, Bool.not_eq_true', ltCps_eq] at h'
    have h1 : p.cps.toList ≤ x.cps.toList := of_decide_eq_false h'.1
    have h2 := risingS_pw x r h'.2
    refine List.pairwise_cons.mpr ⟨fun z hz => ?_, h2⟩
    rcases List.mem_cons.mp hz with e | hz
    · subst e; exact h1
    · exact List.le_trans h1 ((List.pairwise_cons.mp h2).1 z hz)
theorem sortedS_same {ys : List Str} {ss : List (List Nat)} (hp : ys.Perm (ss.map fun s => (⟨s.toArray⟩ : Str))) (hs : sortedS ys = true) : ys = (sortS ss).map fun s => (⟨s.toArray⟩ : Str) := by
  have pw : ys.Pairwise (fun x y => x.cps.toList ≤ y.cps.toList) := by
    cases ys with
    | nil => simp
    | cons x r => exact risingS_pw x r hs
  have e1 : ys.map (fun z => z.cps.toList) = sortS ss := by
    refine perm_sortedS_eq ?_ (List.pairwise_map.mpr pw) (sortS_sorted ss)
    have p1 := hp.map (fun z : Str => z.cps.toList)
    have e2 : (ss.map fun s => (⟨s.toArray⟩ : Str)).map (fun z => z.cps.toList) = ss := by
      rw [List.map_map]
      conv => rhs; rw [← List.map_id ss]
      exact List.map_congr_left fun x _ => by simp
    rw [e2] at p1
    exact p1.trans (sortS_perm ss).symm
  rw [← e1, List.map_map]
  conv => lhs; rw [← List.map_id ys]
  exact List.map_congr_left fun x _ => by simp
theorem sort_ok {pins : List (Addr × Obj)} {s : Shared} {σ : L2.St} {H : Hp} {a : Addr} {xs : List V} {ps : List PV} {us : List Value} {Q : VK} {W : Wd} {v : PV} (I : Inv X pins σ H s) (r : Vals [V.ref a] us) (ea : H a = some (.lst xs)) (ra : RepL X.K cl W ps xs)
    (e : sortP ps = some v) (c : ∀ v' H', New X.K cl W H H' v' (v, true) → Q v' H') : wpAny (model X.prog X.w) X.A (call (.builtin "sorted") us) (EP X pins σ Q) X.xe s := by
  unfold sortP at e
  split at e
  · rename_i is h1
    cases e
    have ex := ra.ints h1
    subst ex
    refine cr_sortedI pins s σ H _ us Q I r ⟨a, is, rfl, .of ea, fun ns' p hp hs hn => ?_⟩
    have := perm_sorted_eq (hp.trans (sortI_perm is).symm) hs (sortI_sorted is)
    subst this
    exact c _ _ (.inr ⟨p, _, rfl, hn, rfl, ⟨_, rfl, RepL.of_ints⟩, .inl ⟨rfl, rfl⟩⟩)
  · split at e
    · rename_i ss h2
      cases e
      have ex := ra.strs h2
      subst ex
      exact cr_sortedT' pins s σ H _ us Q I r ⟨a, ss, rfl, .of ea, fun p hn => c _ _ (.inr ⟨p, _, rfl, hn, rfl, ⟨_, rfl, RepL.of_strs⟩, .inl ⟨rfl, rfl⟩⟩)⟩
    · cases e
theorem prim_ok (hc : X.calm = true) (p : Prim) : CallR X (primV p) (rPrm X.K cl (primP p)) := by
  intro pins s σ H vs us Q I r h
  obtain ⟨W, ps, res, sub, hv, e, c⟩ := h
  unfold primP at e
  split at e
  · -- len tup
    obtain ⟨v, rfl, h⟩ := rhl1 hv
    have h' : Rep X.K cl W (.tup _) v := h
    unfold Rep at h'
    obtain ⟨a, xs, rfl, ea, ra⟩ := h'
    cases e
    refine call_len_seq pins s σ H _ us Q I r ⟨a, xs, rfl, .inr (.of (sub _ _ ea)), ?_⟩
    rw [← ra.length]; exact c _ _ new_int
  · obtain ⟨v, rfl, h⟩ := rhl1 hv
    have h' : Rep X.K cl W (.ktp _) v := h
    unfold Rep at h'
    obtain ⟨a, xs, rfl, ea, ra⟩ := h'
    cases e
    refine call_len_seq pins s σ H _ us Q I r ⟨a, xs, rfl, .inr (sqt_mono sub ea), ?_⟩
    rw [← ra.length]; exact c _ _ new_int
  · obtain ⟨v, rfl, h⟩ := rhl1 hv
    obtain ⟨a, xs, rfl, ea, ra⟩ := h
    cases e
    refine call_len_seq pins s σ H _ us Q I r ⟨a, xs, rfl, .inl (.of ea), ?_⟩
    rw [← ra.length]; exact c _ _ new_int
  · obtain ⟨v, rfl, h⟩ := rhl1 hv
    have h' : Rep X.K cl W (.str _) v := h
    unfold Rep at h'
    subst h'
    split at e
    · rename_i hl
      cases e
      refine call_len_str pins s σ H _ us Q I r ⟨_, rfl, by rw [str_len, ← SL_eq]; exact hl, ?_⟩
      rw [str_len]; exact c _ _ new_int
    · cases e
  · -- len dict
    rename_i t kvs
    obtain ⟨v, rfl, h⟩ := rhl1 hv
    cases e
    cases t with
    | false =>
      obtain ⟨a, l, rfl, ea, ra⟩ := h
      cases (show us = [Value.ref a] from Vals.ref1 r)
      have q := c _ _ new_int
      rw [(repK_keys ra).2] at q
      exact d_len I ea fun t s' I' => ⟨.int _, H, I', ⟨t, rfl⟩, q⟩
    | true =>
      obtain ⟨a, l, rfl, ea, ra⟩ := h
      have q := c _ _ new_int
      rw [repT_len ra] at q
      cases (show us = [Value.ref a] from Vals.ref1 r)
      obtain ⟨z, hd, xs, rel, dd⟩ := dt_rd I.hok ea
      have el : l.length = xs.length := Paired.length rel
      refine call_len_dictH hd dd (by rw [← el]; rw [sizeLine_eq] at z; omega) ?_
      rw [← el]
      exact ⟨.int _, H, I.tok _, ⟨_, rfl⟩, q⟩
  · obtain ⟨v, rfl, h⟩ := rhl1 hv
    unfold RH Rep at h
    subst h
    cases e
    exact call_int1 pins s σ H _ us Q I r (.inl ⟨_, rfl, c _ _ new_int⟩)
  · rename_i b
    obtain ⟨v, rfl, h⟩ := rhl1 hv
    unfold RH Rep at h
    subst h
    cases e
    refine call_int1 pins s σ H _ us Q I r (.inr ⟨_, rfl, ?_⟩)
    exact c _ _ new_int
  · obtain ⟨v, rfl, h⟩ := rhl1 hv
    unfold RH Rep at h
    subst h
    split at e
    · rename_i hd
      cases e
      exact call_int_str pins s σ H _ us Q I r ⟨_, _, rfl, dig_text _ hd.1 hd.2, by rw [str_len]; simp, c _ _ new_int⟩
    · cases e
  · obtain ⟨v, rfl, h⟩ := rhl1 hv
    unfold RH Rep at h
    subst h
    split at e
    · rename_i i hl
      cases e
      refine call_str_int pins s σ H _ us Q I r ⟨_, rfl, hl, ?_⟩
      have := c _ H (.inl ⟨rfl, rfl, (by unfold Rep; rfl : Rep X.K cl W (.str (strI i)) (.str ⟨(strI i).toArray⟩))⟩)
      unfold strI at this
      rw [str_back] at this
      exact this
    · cases e
  · -- tuple(list)
    obtain ⟨v, rfl, h⟩ := rhl1 hv
    obtain ⟨a, xs, rfl, ea, ra⟩ := h
    cases e
    exact call_tuple_of pins s σ H _ us Q I r ⟨a, xs, rfl, .inl ⟨.of ea, fun l hn => c _ _ (.inr ⟨l, _, rfl, hn, rfl, ⟨_, rfl, ra⟩, .inr ⟨rfl, rfl⟩⟩)⟩⟩
  · obtain ⟨v, rfl, h⟩ := rhl1 hv
    have h' : Rep X.K cl W (.tup _) v := h
    unfold Rep at h'
    obtain ⟨a, xs, rfl, ea, ra⟩ := h'
    cases e
    exact call_tuple_of pins s σ H _ us Q I r ⟨a, xs, rfl, .inr ⟨.of (sub _ _ ea), c _ _ (.inl ⟨rfl, rfl, h⟩)⟩⟩
  · obtain ⟨v, rfl, h⟩ := rhl1 hv
    obtain ⟨a, xs, rfl, ea, ra⟩ := h
    cases e
    exact call_list_of pins s σ H _ us Q I r ⟨a, xs, rfl, .inl (.of ea), fun l hn => c _ _ (.inr ⟨l, _, rfl, hn, rfl, ⟨_, rfl, ra⟩, .inl ⟨rfl, rfl⟩⟩)⟩
  · obtain ⟨v, rfl, h⟩ := rhl1 hv
    have h' : Rep X.K cl W (.tup _) v := h
    unfold Rep at h'
    obtain ⟨a, xs, rfl, ea, ra⟩ := h'
    cases e
    exact call_list_of pins s σ H _ us Q I r ⟨a, xs, rfl, .inr (.of (sub _ _ ea)), fun l hn => c _ _ (.inr ⟨l, _, rfl, hn, rfl, ⟨_, rfl, ra⟩, .inl ⟨rfl, rfl⟩⟩)⟩
  · obtain ⟨v, rfl, h⟩ := rhl1 hv
    have h' : Rep X.K cl W (.scr _) v := h
    unfold Rep at h'
    obtain ⟨a, rfl, ea⟩ := h'
    cases e
    exact call_list_of pins s σ H _ us Q I r ⟨a, _, rfl, .inl (sql_mono sub ea), fun l hn => c _ _ (.inr ⟨l, _, rfl, hn, rfl, ⟨_, rfl, RepL.of_ints⟩, .inl ⟨rfl, rfl⟩⟩)⟩
  · -- list(dict)
    obtain ⟨v, rfl, h⟩ := rhl1 hv
    obtain ⟨a, l, rfl, ea, ra⟩ := h
    cases e
    exact call_listD hc pins s σ H _ us Q I r ⟨a, l, rfl, ea, fun p hn => c _ _ (.inr ⟨p, _, rfl, hn, rfl, ⟨_, rfl, (repK_keys ra).1⟩, .inl ⟨rfl, rfl⟩⟩)⟩
  · -- sorted(list)
    obtain ⟨v, rfl, h⟩ := rhl1 hv
    obtain ⟨a, xs, rfl, ea, ra⟩ := h
    obtain ⟨w, e1, e2⟩ := Option.map_eq_some_iff.mp e
    subst e2
    exact sort_ok I r ea ra e1 c
  · -- sorted(dict)
    rename_i kvs
    obtain ⟨v, rfl, h⟩ := rhl1 hv
    obtain ⟨a, l, rfl, ea, ra⟩ := h
    split at e
    · rename_i h64
      obtain ⟨w, e1, e2⟩ := Option.map_eq_some_iff.mp e
      subst e2
      obtain ⟨rk, hl⟩ := repK_keys ra
      unfold sortP at e1
      split at e1
      · rename_i is h1
        cases e1
        have ex := rk.ints h1
        have em : l.map (·.1) = is.map Sum.inl := by
          have := keysI (l := l) (is := is) (by rw [← ex]) 
          exact this
        refine call_sortedDI hc pins s σ H _ us Q I r ⟨a, l, is, rfl, ea, em, ?_, fun ns' p hp hs hn => ?_⟩
        · have := congrArg List.length em
          rw [List.length_map, List.length_map] at this
          omega
        · have := perm_sorted_eq (hp.trans (sortI_perm is).symm) hs (sortI_sorted is)
          subst this
          exact c _ _ (.inr ⟨p, _, rfl, hn, rfl, ⟨_, rfl, RepL.of_ints⟩, .inl ⟨rfl, rfl⟩⟩)
      · split at e1
        · rename_i ss h2
          cases e1
          have ex := rk.strs h2
          have em : l.map (·.1) = (ss.map fun s => (⟨s.toArray⟩ : Str)).map Sum.inr := keysS (by rw [← ex])
          refine call_sortedD hc pins s σ H _ us Q I r ⟨a, l, _, rfl, ea, em, ?_, fun ys p hp hs hn => ?_⟩
          · have := congrArg List.length em
            rw [List.length_map, List.length_map] at this
            omega
          · have e3 : ys = (sortS ss).map fun s => (⟨s.toArray⟩ : Str) := sortedS_same hp hs
            subst e3
            have q := c (.ref p) (upd H p (.lst ((sortS ss).map fun s => V.str ⟨s.toArray⟩))) (.inr ⟨p, _, rfl, hn, rfl, ⟨_, rfl, RepL.of_strs⟩, .inl ⟨rfl, rfl⟩⟩)
            rw [List.map_map]
            exact q
        · cases e1
    · cases e
  · obtain ⟨v, rfl, h⟩ := rhl1 hv
    obtain ⟨a, xs, rfl, ea, ra⟩ := h
    obtain ⟨bs, e1, e2⟩ := Option.map_eq_some_iff.mp e
    subst e2
    have ex := ra.bls e1
    subst ex
    exact cr_all hc pins s σ H _ us Q I r ⟨a, bs, rfl, .of ea, c _ _ new_bl⟩
  · obtain ⟨v, rfl, h⟩ := rhl1 hv
    obtain ⟨a, xs, rfl, ea, ra⟩ := h
    obtain ⟨bs, e1, e2⟩ := Option.map_eq_some_iff.mp e
    subst e2
    have ex := ra.bls e1
    subst ex
    exact cr_any hc pins s σ H _ us Q I r ⟨a, bs, rfl, .of ea, c _ _ new_bl⟩
  · obtain ⟨v, rfl, h⟩ := rhl1 hv
    obtain ⟨a, xs, rfl, ea, ra⟩ := h
    obtain ⟨bs, e1, e2⟩ := Option.map_eq_some_iff.mp e
    subst e2
    have ex := ra.ints e1
    subst ex
    exact cr_sum hc pins s σ H _ us Q I r ⟨a, bs, rfl, .of ea, c _ _ new_int⟩
  · obtain ⟨v, w, rfl, h, h2⟩ := rhl2 hv
    unfold RH Rep at h h2
    subst h h2
    cases e
    exact call_max2 hc pins s σ H _ us Q I r ⟨_, _, rfl, c _ _ new_int⟩
  · obtain ⟨v, w, rfl, h, h2⟩ := rhl2 hv
    unfold RH Rep at h h2
    subst h h2
    cases e
    exact call_min2 hc pins s σ H _ us Q I r ⟨_, _, rfl, c _ _ new_int⟩
  · obtain ⟨v, rfl, h⟩ := rhl1 hv
    obtain ⟨a, xs, rfl, ea, ra⟩ := h
    obtain ⟨is, e1, e2⟩ := Option.bind_eq_some_iff.mp e
    have ex := ra.ints e1
    subst ex
    match is, e2 with
    | [], e2 => cases e2
    | i :: rr, e2 =>
      cases e2
      refine cr_max hc pins s σ H _ us Q I r ⟨a, i :: rr, rfl, .of ea, by simp, fun m hm hy => ?_⟩
      have hm' : m = maxL i rr := Int.le_antisymm ((maxL_spec rr i).2 m hm) (hy _ (maxL_spec rr i).1)
      subst hm'
      exact c _ _ new_int
  · obtain ⟨v, rfl, h⟩ := rhl1 hv
    obtain ⟨a, xs, rfl, ea, ra⟩ := h
    obtain ⟨is, e1, e2⟩ := Option.bind_eq_some_iff.mp e
    have ex := ra.ints e1
    subst ex
    match is, e2 with
    | [], e2 => cases e2
    | i :: rr, e2 =>
      cases e2
      refine cr_min hc pins s σ H _ us Q I r ⟨a, i :: rr, rfl, .of ea, by simp, fun m hm hy => ?_⟩
      have hm' : m = minL i rr := Int.le_antisymm (hy _ (minL_spec rr i).1) ((minL_spec rr i).2 m hm)
      subst hm'
      exact c _ _ new_int
  · obtain ⟨v, rfl, h⟩ := rhl1 hv
    unfold RH Rep at h
    subst h
    cases e
    exact call_abs pins s σ H _ us Q I r ⟨_, rfl, c _ _ new_int⟩
  · obtain ⟨v, rfl, h⟩ := rhl1 hv
    have h' : Rep X.K cl W (.scr _) v := h
    unfold Rep at h'
    obtain ⟨a, rfl, ea⟩ := h'
    cases e
    refine call_len_seq pins s σ H _ us Q I r ⟨a, _, rfl, .inl (sql_mono sub ea), ?_⟩
    rw [List.length_map]; exact c _ _ new_int
  · cases e
end
end Lk

namespace Lk
open PySem L2 PySem.Spec PyProof.Rows
section
variable {K : PySem.W.Frag} {cl : String → Option Addr} {W0 W : Wd} {H0 H : Hp} {s s' : Sg} {σ : L2.St}
theorem put_own {i : Nat} {x y : PV} {a : Addr} (R : Rl K cl W0 H0 W s σ H) (hi : s.env[i]? = some (.own x)) (ha : σ[i]? = some (some (.ref a))) (o : HO) (t : At K cl W (upd H a o) a y) :
    Rl K cl W0 H0 W { s with env := s.env.set i (.own y) } σ (upd H a o) := by
  obtain ⟨a', ea, tx, f, n, z⟩ := R.own i x hi
  rw [ha] at ea
  have : a = a' := by simpa using ea
  subst this
  obtain ⟨u, eu, nown, _⟩ := tx.ne_none
  have hil : i < s.env.length := (List.getElem?_eq_some_iff.mp hi).1
  refine ⟨R.rm.put f n (fun q e => nown q (Option.some.inj (eu.symm.trans e))), ⟨R.si.le, fun b w e hb => ?_, R.si.newF, R.si.newI, fun b e => ?_⟩, by simpa using R.len, fun j p h => ?_, fun j p h => ?_, fun j k p q c h1 h2 e1 e2 => ?_⟩
  · have nb : b ≠ a := fun q => by subst q; rw [z] at e; cases e
    rw [upd_ne nb]; exact R.si.keep b w e hb
  · by_cases eb : b = a
    · subst eb; exact z
    · rw [upd_ne eb] at e; exact R.si.back b e
  · have nj : j ≠ i := fun q => by subst q; rw [List.getElem?_set_self hil] at h; cases h
    rw [List.getElem?_set_ne (Ne.symm nj)] at h
    exact R.val j p h
  · by_cases nj : j = i
    · subst nj
      rw [List.getElem?_set_self hil] at h; cases h
      exact ⟨a, ha, t, f, n, z⟩
    · rw [List.getElem?_set_ne (Ne.symm nj)] at h
      obtain ⟨b, eb, tb, fb, nb, zb⟩ := R.own j p h
      have nba : b ≠ a := fun q => by subst q; exact nj (R.dist j i p x b h hi eb ha)
      refine ⟨b, eb, tb.mono (.refl W) (fun w q => by rw [upd_ne nba]; exact q) (fun c q => ?_), fb, nb, zb⟩
      have nc : c ≠ a := fun y => by subst y; rw [eu] at q; exact nown _ (Option.some.inj q)
      rw [upd_ne nc]; exact q
  · have own' : ∀ (m : Nat) (w : PV), (s.env.set i (.own y))[m]? = some (.own w) → ∃ w', s.env[m]? = some (.own w') := fun m w hm => by
      by_cases nm : m = i
      · subst nm; exact ⟨x, hi⟩
      · rw [List.getElem?_set_ne (Ne.symm nm)] at hm; exact ⟨w, hm⟩
    obtain ⟨p', h1'⟩ := own' j p h1
    obtain ⟨q', h2'⟩ := own' k q h2
    exact R.dist j k p' q' c h1' h2' e1 e2
theorem put_ref {k : Nat} {a : Addr} {y : PV} (R : Rl K cl W0 H0 W s σ H) (hk : W.inj[k]? = some a) (o : HO) (t : At K cl W (upd H a o) a y) : Rl K cl W0 H0 W { s with mu := s.mu.set k y } σ (upd H a o) := by
  obtain ⟨x, ex, tx, f⟩ := R.rm.at_ k a hk
  obtain ⟨u, eu, nown, _⟩ := tx.ne_none
  have ma : a ∈ W.inj := List.mem_of_getElem? hk
  refine R.step (mu' := s.mu.set k y) ⟨.refl W, fun b w e hb => ?_, fun _ _ q => .inl q, fun _ q => .inl q, fun b e => ?_⟩ ⟨fun b w e => ?_, fun j b e => ?_, by rw [List.length_set]; exact R.rm.len, R.rm.nd⟩
  · have nb : b ≠ a := fun q => hb (by rw [q]; exact ma)
    rw [upd_ne nb]; exact e
  · by_cases eb : b = a
    · subst eb; rw [upd_same] at e; cases e
    · rwa [upd_ne eb] at e
  · have nb : b ≠ a := fun q => by subst q; rw [f] at e; cases e
    rw [upd_ne nb]; exact R.rm.sub b w e
  · obtain ⟨x', ex', tx', f'⟩ := R.rm.at_ j b e
    by_cases nj : j = k
    · subst nj
      rw [hk] at e; cases e
      exact ⟨y, by rw [List.getElem?_set_self ((List.getElem?_eq_some_iff.mp ex').1)], t, f⟩
    · have nb : b ≠ a := fun q => nj (by
        subst q
        exact nodup_ix' R.rm.nd e hk)
      refine ⟨x', by rw [List.getElem?_set_ne (Ne.symm nj)]; exact ex', tx'.mono (.refl W) (fun w q => by rw [upd_ne nb]; exact q) (fun c q => ?_), f'⟩
      have nc : c ≠ a := fun y => by subst y; rw [eu] at q; exact nown _ (Option.some.inj q)
      rw [upd_ne nc]; exact q
where
  nodup_ix' {N : List Addr} (hN : N.Nodup) {i j : Nat} {x : Addr} (a : N[i]? = some x) (b : N[j]? = some x) : i = j := by
    obtain ⟨h1, e1⟩ := List.getElem?_eq_some_iff.mp a
    obtain ⟨h2, e2⟩ := List.getElem?_eq_some_iff.mp b
    exact (List.getElem_inj hN).mp (e1.trans e2.symm)
/-- a place is made another thing -/
theorem put_ok {pl : Pl} {v : V} {x y : PV} (R : Rl K cl W0 H0 W s σ H) (hp : PlR K cl W s σ v pl) (hl : s.look pl = some x) (e : s.put pl y = some s') :
    ∃ a, v = .ref a ∧ At K cl W H a x ∧ ∀ o, At K cl W (upd H a o) a y → Rl K cl W0 H0 W s' σ (upd H a o) := by
  have ref : ∀ (k : Nat), Rep K cl W (.ref k) v → drf s.mu (.ref k) = some x → (if k < s.mu.length then some { s with mu := s.mu.set k y } else none) = some s' →
      ∃ a, v = .ref a ∧ At K cl W H a x ∧ ∀ o, At K cl W (upd H a o) a y → Rl K cl W0 H0 W s' σ (upd H a o) := by
    intro k r d e
    unfold Rep at r
    obtain ⟨a, ev, hk⟩ := r
    split at e
    · cases e
      obtain ⟨x', ex', tx', _⟩ := R.rm.at_ k a hk
      have : s.mu[k]? = some x := d
      rw [ex'] at this; cases this
      exact ⟨a, ev, tx', fun o t => put_ref R hk o t⟩
    · cases e
  cases pl with
  | v p =>
    cases p with
    | ref k => exact ref k hp hl e
    | _ => cases e
  | sl i =>
    have hv : σ[i]? = some (some v) := hp
    have hl' : (match s.env[i]? with
      | some (.own p) => some p
      | some (.val p) => drf s.mu p
      | _ => none) = some x := hl
    have e' : (match s.env[i]? with
      | some (.own _) => some { s with env := s.env.set i (.own y) }
      | some (.val (.ref k)) => if k < s.mu.length then some { s with mu := s.mu.set k y } else none
      | _ => none) = some s' := e
    split at e'
    · rename_i q hq
      rw [hq] at hl'
      cases hl'
      cases e'
      obtain ⟨a, ea, t, _⟩ := R.own i _ hq
      have : v = .ref a := by rw [hv] at ea; exact Option.some.inj (Option.some.inj ea)
      subst this
      exact ⟨a, rfl, t, fun o t' => put_own R hq ea o t'⟩
    · rename_i k hq
      rw [hq] at hl'
      obtain ⟨w, ew, r⟩ := R.val i _ hq
      have : v = w := by rw [hv] at ew; exact Option.some.inj (Option.some.inj ew)
      subst this
      exact ref k r hl' e'
    · cases e'
end

/-! ### methods -/
section
variable (X : Cx)
/-- a built-in method as it is met -/
def MKit (name : Str) (x : V) (H : Hp) (r : V → List V → Hp → VK → Prop) : Prop :=
  ∃ T id, PlainAttrs T ∧ Slot T name id ∧ typeOf (.builtin id) = pure (.type "method_descriptor") ∧ MtR X id r ∧
    ∀ (pins : List (Addr × Obj)) (σ : L2.St) (s : Shared) (v : Value), Inv X pins σ H s → RelV x v → s.TypeIs v T ∧ ∀ a, v = .ref a → ∃ ob, s.heap.get? a = some ob ∧ ob.dict = none
end
section
variable {X : Cx} {o e : Expr} {es : List Expr} {to : TE} {t : TA} {name : Str} {apos cpos : Pos}
theorem pe_mk0 (ho : PE X o to) (hbase : attributeBase o name X.env (eval o X.env) = eval o X.env) (hline : (apos.endLine == cpos.line) = true) :
    PE X (.Call (.Attribute o name apos) [] [] cpos) (fun σ H Q => to σ H fun x H1 => ∃ r, MKit X name x H1 r ∧ r x [] H1 Q) := by
  refine ⟨fun pins s σ H Q I h => ?_⟩
  refine wpAny_Call_method0_late hbase hline (thn (ho.run pins s σ H _ I h) fun v s1 ⟨x, H1, I1, r1, r, ⟨T, id, pa, slot, hty, hm, ty⟩, q1⟩ => ?_)
  obtain ⟨h1, h2⟩ := ty _ _ _ _ I1 r1
  exact ⟨T, id, pa, slot, hty, h1, h2, Calls.callWith_builtin rfl (PySem.evalArgs_none (hm pins s1 σ H1 x [] v [] Q I1 r1 .nil q1))⟩
theorem pe_mk (ho : PE X o to) (ha : PA X (e :: es) t) (hbase : attributeBase o name X.env (eval o X.env) = eval o X.env)
    (hfew : ((backTo cpos (starEach (e :: es) X.env)).all (fun x => !x.1) && (backToKw cpos (keywordEach [] X.env)).all (fun x => x.1.isSome)
      && decide ((e :: es).length + ([] : List Keyword).length + (if ([] : List Keyword).isEmpty then 0 else 1) < 30)) = true)
    (hline : (apos.endLine == cpos.line) = true) (hs : starEach (e :: es) X.env = (false, eval e X.env) :: starEach es X.env) (hplain : (backTo cpos (starEach es X.env)).any (·.1) = false) :
    PE X (.Call (.Attribute o name apos) (e :: es) [] cpos) (fun σ H Q => to σ H fun x H1 => ∃ r, MKit X name x H1 r ∧ t σ H1 fun xs H2 => r x xs H2 Q) := by
  refine ⟨fun pins s σ H Q I h => ?_⟩
  refine wpAny_Call_method_late hbase hfew hline rfl (thn (ho.run pins s σ H _ I h) fun v s1 ⟨x, H1, I1, r1, r, ⟨T, id, pa, slot, hty, hm, ty⟩, q1⟩ => ?_)
  obtain ⟨h1, h2⟩ := ty _ _ _ _ I1 r1
  refine ⟨T, id, pa, slot, hty, h1, h2, ?_⟩
  have hA := ha.run cpos pins s1 σ H1 _ I1 q1
  rw [hs] at hA ⊢
  refine Calls.callWith_builtin (by show (false || (backTo cpos (starEach es X.env)).any (·.1)) = false; rw [hplain] <;> rfl) (Calls.evalArgs_plain ?_)
  exact thn hA fun us s2 ⟨vs, H2, I2, r2, q2⟩ => hm pins s2 σ H2 x vs v us Q I2 r1 r2 q2
theorem kit_list {H : Hp} {a : Addr} {xs : List V} {id : String} {r : V → List V → Hp → VK → Prop} (h : H a = some (.lst xs)) (slot : Slot "list" name id) (ty : typeOf (.builtin id) = pure (.type "method_descriptor")) (m : MtR X id r) : MKit X name (.ref a) H r :=
  ⟨"list", id, PySem.F.plainAttrs_list, slot, ty, m, fun pins σ s v I rv => tyV_is I rv (.inl ⟨rfl, xs, .of h⟩)⟩
theorem kit_str {H : Hp} {z : Str} {id : String} {r : V → List V → Hp → VK → Prop} (slot : Slot "str" name id) (ty : typeOf (.builtin id) = pure (.type "method_descriptor")) (m : MtR X id r) : MKit X name (.str z) H r :=
  ⟨"str", id, PySem.F.plainAttrs_str, slot, ty, m, fun pins σ s v I rv => tyV_is I rv (show "str" = "str" from rfl)⟩
theorem kit_dict {H : Hp} {a : Addr} {id : String} {r : V → List V → Hp → VK → Prop} (h : IsD H a) (slot : Slot "dict" name id) (ty : typeOf (.builtin id) = pure (.type "method_descriptor")) (m : MtR X id r) : MKit X name (.ref a) H r :=
  ⟨"dict", id, PySem.F.plainAttrs_dict, slot, ty, m, fun pins σ s v I rv => by
    cases (show v = Value.ref a from rv)
    obtain ⟨t1, t2, _⟩ := isD_at I h
    exact ⟨t1, t2⟩⟩
end
section
variable {X : Cx} {cl : String → Option Addr}
theorem txt_join (a : List Nat) : ∀ ss : List (List Nat), Txt.join ⟨a.toArray⟩ (ss.map fun s => (⟨s.toArray⟩ : Str)) = ⟨(joinL a ss).toArray⟩ := by
  intro ss
  have h1 : Txt.join ⟨a.toArray⟩ (ss.map fun s => (⟨s.toArray⟩ : Str)) = Str.join ⟨a.toArray⟩ (ss.map fun s => (⟨s.toArray⟩ : Str)) := StrLaws.glued_eq_join _ _
  have h2 : ∀ ss : List (List Nat), Str.join ⟨a.toArray⟩ (ss.map fun s => (⟨s.toArray⟩ : Str)) = ⟨(joinL a ss).toArray⟩ := by
    intro ss
    induction ss with
    | nil => rfl
    | cons x r ih =>
      cases r with
      | nil => rfl
      | cons y r =>
        show (⟨x.toArray⟩ : Str) ++ ⟨a.toArray⟩ ++ Str.join ⟨a.toArray⟩ ((y :: r).map fun s => (⟨s.toArray⟩ : Str)) = _
        rw [ih, str_app, str_app]
        rfl
  rw [h1, h2]
/-- d.get(k, x) -/
theorem mt_get2 (hu : X.A.units + 65 < cLine) : MtR X "dict.get" (fun x xs H Q => ∃ a y z o, x = .ref a ∧ xs = [y, z] ∧ DGet H a y o ∧ Q (o.getD z) H) := by
  intro pins s σ H x xs v us Q I rx rs h
  obtain ⟨a, y, z, o, rfl, rfl, g, q⟩ := h
  cases (show v = Value.ref a from rx)
  obtain ⟨u, w, rfl, ru, rw'⟩ := Vals.two rs
  exact d_get2 (by omega) I g ru rw' fun w' s' I' rw2 => ⟨_, H, I', rw2, q⟩
theorem mt_setd : MtR X "dict.setdefault" (fun x xs H Q => ∃ a k z kvs, x = .ref a ∧ xs = [kV k, z] ∧ H a = some (.dK kvs) ∧ kvs.length < sizeLine ∧ (∀ v, valV kvs k = some v → Q v H) ∧ (valV kvs k = none → Q z (upd H a (.dK (putK kvs k z))))) := by
  intro pins s σ H x xs v us Q I rx rs h
  obtain ⟨a, k, z, kvs, rfl, rfl, ea, hl, q3, q4⟩ := h
  cases (show v = Value.ref a from rx)
  obtain ⟨u, w, rfl, ru, rw'⟩ := Vals.two rs
  exact d_setd I ea ru rw' hl (fun v hv w' s4 I4 rw' => ⟨v, _, I4, rw', q3 v hv⟩) fun hn w' s4 I4 rw' => ⟨z, _, I4, rw', q4 hn⟩
/-- o[i] = v of a dict -/
theorem set_dict (hu : X.A.units + 65 < cLine) : PSet X (fun o i v H Q => ∃ a H', o = .ref a ∧ DPut H a i v H' ∧ Q H') := by
  intro pins s σ H o i v ov iv u Q I ro ri rv h
  obtain ⟨a, H', rfl, g, q⟩ := h
  cases (show ov = Value.ref a from ro)
  exact d_setItem (by omega) I g ri rv fun s' I' => ⟨H', I', q⟩
theorem PSet.or {t t' : TSet} (h : PSet X t) (h' : PSet X t') : PSet X (fun o i v H Q => t o i v H Q ∨ t' o i v H Q) := by
  intro pins s σ H o i v ov iv u Q I ro ri rv q
  rcases q with q | q
  · exact h pins s σ H o i v ov iv u Q I ro ri rv q
  · exact h' pins s σ H o i v ov iv u Q I ro ri rv q
end
end Lk

namespace Lk
open PySem L2 PySem.Spec PyProof.Rows
/-! ### rules -/
/-- a new dict is locked where it is frozen -/
def tFz (te : TE) : TE := fun σ H Q => te σ H fun v H' => Q v H' ∨ ∃ a u, v = .ref a ∧ H' a = some u ∧ Mut (some u) ∧ ∀ od, Q v (upd H' a (.frz od u))
section
variable {X : Cx} {a b e : Expr} {es rest : List Expr} {te ta tb : TE} {t : TA} {pos p : Pos} {cl : String → Option Addr}
theorem pe_fz (h : L2.PE X e te) : L2.PE X e (tFz te) := by
  refine ⟨fun pins s σ H Q I hq => ?_⟩
  refine thn (h.run pins s σ H _ I hq) fun v s1 ⟨x, H1, I1, r1, q1⟩ => ?_
  rcases q1 with q1 | ⟨a, u, ex, ea, mu, q1⟩
  · exact ⟨x, H1, I1, r1, q1⟩
  · obtain ⟨od, I2⟩ := I1.lock ea mu
    exact ⟨x, _, I2, r1, q1 od⟩
def tAndP (K : PySem.W.Frag) (cl : String → Option Addr) (ta tb : TE) : TE := fun σ H Q => ta σ H fun x H1 => ∃ k, rTru K cl x H1 (fun c H2 => c = k ∧ H2 = H1) ∧ if k = true then tb σ H1 Q else Q x H1
def tOrP (K : PySem.W.Frag) (cl : String → Option Addr) (ta tb : TE) : TE := fun σ H Q => ta σ H fun x H1 => ∃ k, rTru K cl x H1 (fun c H2 => c = k ∧ H2 = H1) ∧ if k = true then Q x H1 else tb σ H1 Q
theorem pe_andP (ha : L2.PE X a ta) (hb : L2.PE X (.BoolOp .And (b :: rest) pos) tb) : L2.PE X (.BoolOp .And (a :: b :: rest) pos) (tAndP X.K cl ta tb) := by
  refine ⟨fun pins s σ H Q I h => ?_⟩
  refine BoolOp_and (thn (ha.run pins s σ H _ I h) fun v s1 ⟨x, H1, I1, r1, q1⟩ => ?_)
  obtain ⟨k, e, q1⟩ := q1
  refine thn (tru_okP pins s1 σ H1 x v _ I1 r1 e) fun c s2 hc => ?_
  obtain ⟨H2, I2, e1, e2⟩ := hc
  rw [e2] at I2
  rw [← e1] at q1
  cases c with
  | true => exact hb.run pins s2 σ H1 Q I2 q1
  | false => exact ⟨x, H1, I2, r1, q1⟩
theorem pe_orP (ha : L2.PE X a ta) (hb : L2.PE X (.BoolOp .Or (b :: rest) pos) tb) : L2.PE X (.BoolOp .Or (a :: b :: rest) pos) (tOrP X.K cl ta tb) := by
  refine ⟨fun pins s σ H Q I h => ?_⟩
  refine BoolOp_or (thn (ha.run pins s σ H _ I h) fun v s1 ⟨x, H1, I1, r1, q1⟩ => ?_)
  obtain ⟨k, e, q1⟩ := q1
  refine thn (tru_okP pins s1 σ H1 x v _ I1 r1 e) fun c s2 hc => ?_
  obtain ⟨H2, I2, e1, e2⟩ := hc
  rw [e2] at I2
  rw [← e1] at q1
  cases c with
  | true => exact ⟨x, H1, I2, r1, q1⟩
  | false => exact hb.run pins s2 σ H1 Q I2 q1
/-- not, by the operand's test -/
theorem isTrue_of {e : Expr} {tt : TT} (h : L2.PT X e tt) : True := trivial
theorem pe_notP {r : V → Hp → (Bool → Hp → Prop) → Prop} (hr : TruR X r) (ha : L2.PE X a ta) : L2.PE X (.UnaryOp .Not a pos) (fun σ H Q => ta σ H fun x H1 => r x H1 fun c H2 => Q (.bl (!c)) H2) := by
  refine ⟨fun pins s σ H Q I h => ?_⟩
  refine UnaryOp_ (thn (ha.run pins s σ H _ I h) fun v s1 ⟨x, H1, I1, r1, q1⟩ => ?_)
  exact not_of (thn (hr pins s1 σ H1 x v (fun c H2 => Q (.bl (!c)) H2) I1 r1 q1) fun c s2 ⟨H2, I2, q2⟩ => ⟨.bl (!c), H2, I2, rfl, q2⟩)
theorem pt_truthP {r : V → Hp → (Bool → Hp → Prop) → Prop} (hr : TruR X r) (ha : L2.PE X a ta) (he : ∀ whole, isTrue a X.env whole = (do let v ← whole; standAt a.pos; holding [v] (PySem.truthy v))) :
    L2.PT X a (fun σ H Q => ta σ H fun x H1 => r x H1 Q) := by
  refine ⟨fun pins s σ H Q I h => ?_⟩
  exact isTrue_plain (thn (ha.run pins s σ H _ I h) fun v s1 ⟨x, H1, I1, r1, q1⟩ => hr pins s1 σ H1 x v Q I1 r1 q1) (he _)
variable {CX : CXT} {k : Nat} {f C : Addr} {fd : FuncData} {ps : List Str} {sp : Sp} {E : L2.St → XK} {x : Str}
theorem pe_call0S (F : FnOk X.prog X.w X.K X.mg X.base CX k f fd ps sp) (hr : Room k X.A) (hg : Gl X x) (hm : X.mg x = some (.ref f)) (hk : PySem.W.keepIn X.K (.ref f) = true) (hb : Binds X.K fd ps []) (hx : ∀ σ, PassesAt CX X σ (E σ))
    (hdb : (x == ("__debug__" : Str)) = false) : L2.PE X (.Call (.Name x p) [] [] pos) (tCallS sp E tNil) := by
  refine ⟨fun pins s σ H Q I h => ?_⟩
  refine wpAny_Call_Name_kw (ld_glob I hg hm ?_ hdb)
  exact PySem.W.callWith_K0 I.kIn hk (run_fnS (us := []) F hr hb (hx σ) I .nil h)
theorem run_makeS {pins : List (Addr × Obj)} {σ : L2.St} {H : Hp} {s : Shared} {Q : VK} {us : List Value} {vs : List V} (M : Mk X.K C f) (F : FnOk X.prog X.w X.K X.mg X.base CX k f fd ps sp) (hr : Room (k + 1) X.A) (hb : Binds X.K fd ps [])
    (hx : PassesAt CX X σ (E σ)) (I : Inv X pins σ H s) (r : Vals vs us)
    (h : ∀ x dx, H x = none → H dx = none → dx ≠ x → sp (.ref x :: vs) (upd (upd H dx (.own x)) x (.ins C dx [])) (fun v H2 => v = .non ∧ Q (.ref x) H2) (E σ)) :
    wpAny (model X.prog X.w) X.A (call (.ref C) us) (EP X pins σ Q) X.xe s := by
  have hq := h (s.heap.objs.size + 1) s.heap.objs.size (I.hok.fresh (Nat.le_succ _)) (I.hok.fresh (Nat.le_refl _)) (Nat.ne_of_lt (Nat.lt_succ_self _))
  have I2 := Inv.made (C := C) I
  have r2 : Vals (V.ref (s.heap.objs.size + 1) :: vs) (Value.ref (s.heap.objs.size + 1) :: us) := .cons rfl r
  have hl : (Value.ref (s.heap.objs.size + 1) :: us).length = ps.length := by
    have e := r2.length
    rw [F.len _ _ _ _ hq] at e
    exact e.symm
  refine wpAny_call (make_map (f := f) I.kIn M.makes M.init (beq_iff_eq.mp M.fn) (codeAny_mono (F.run _ X.stack _ _ ⟨Value.ref (s.heap.objs.size + 1) :: us, []⟩ (Value.ref (s.heap.objs.size + 1) :: us) _ _ (E σ) (hr.make C us [])
    (I2.env0.make C us []) (by have q := hb _ (Value.ref (s.heap.objs.size + 1) :: us) I2.kIn (by rw [List.append_nil]; exact hl); rw [List.append_nil] at q; exact q) r2 hq) fun r s' hq' => ?_))
  cases r with
  | error e => exact hx pins _ _ e s' I2 hq'
  | ok fl =>
    cases fl with
    | ret u =>
      obtain ⟨v, H', I3, rv, ev, q3⟩ := I2.after hq'
      subst ev
      exact ⟨rv, ⟨V.ref (s.heap.objs.size + 1), H', I3, rfl, q3⟩⟩
    | next => exact False.elim hq'
    | brk => exact False.elim hq'
    | cont => exact False.elim hq'
def tMakeS (C : Addr) (sp : Sp) (E : L2.St → XK) (t : TA) : TE := fun σ H Q => t σ H fun vs H1 => ∀ x dx, H1 x = none → H1 dx = none → dx ≠ x →
  sp (.ref x :: vs) (upd (upd H1 dx (.own x)) x (.ins C dx [])) (fun v H2 => v = .non ∧ Q (.ref x) H2) (E σ)
theorem pe_makeS (M : Mk X.K C f) (F : FnOk X.prog X.w X.K X.mg X.base CX k f fd ps sp) (hr : Room (k + 1) X.A) (hg : Gl X x) (hm : X.mg x = some (.ref C)) (hb : Binds X.K fd ps []) (hx : ∀ σ, PassesAt CX X σ (E σ))
    (ha : L2.PA X (e :: es) t) (hdb : (x == ("__debug__" : Str)) = false) (he : starEach (e :: es) X.env = (false, eval e X.env) :: starEach es X.env) (hpl : (backTo pos (starEach es X.env)).any (·.1) = false) :
    L2.PE X (.Call (.Name x p) (e :: es) [] pos) (tMakeS C sp E t) := by
  refine ⟨fun pins s σ H Q I h => ?_⟩
  refine wpAny_Call_Name_kw (ld_glob I hg hm ?_ hdb)
  refine PySem.W.callWith_K (h₀ := X.base) I.ok.mod.kin M.kp (thn (ha.run pos pins s σ H _ I h) fun us s1 ⟨vs, H1, I1, r, q⟩ => ⟨I1.kIn, ?_⟩) he hpl
  exact run_makeS M F hr hb (hx σ) I1 r q
end
/-! ### the syntax -/
def noSt : Expr → Bool
  | .Starred .. => false
  | _ => true
def noStL (es : List Expr) : Bool := es.all noSt
def noSup : Expr → Bool
  | .Call (.Name ..) [] [] _ => false
  | _ => true
def noSlice : Expr → Bool
  | .Slice .. => false
  | _ => true
def noSet : Expr → Bool
  | .Set .. => false
  | _ => true
def noComp : Expr → Bool
  | .ListComp .. | .SetComp .. | .DictComp .. => false
  | _ => true
/-- a test that is plainly a value's truth -/
def plainT : Expr → Bool
  | .BoolOp .. | .UnaryOp .. | .Compare .. | .IfExp .. | .NamedExpr .. => false
  | _ => true
section
variable {env : Env} {e o : Expr} {es : List Expr} {pos : Pos}
theorem star_cons (h : noSt e = true) : starEach (e :: es) env = (false, eval e env) :: starEach es env := by
  cases e <;> first | rfl | (exact absurd h (by simp [noSt]))
theorem star_any (h : noStL es = true) : (backTo pos (starEach es env)).any (·.1) = false := by
  induction es with
  | nil => rfl
  | cons e r ih =>
    unfold noStL at h
    simp only [List.all_cons, Bool.and_eq_true] at h
    rw [star_cons h.1]
    show (false || (backTo pos (starEach r env)).any (·.1)) = false
    rw [ih h.2]
    rfl
theorem star_few {cpos : Pos} (h : noStL es = true) (hl : es.length < 30) : ((backTo cpos (starEach es env)).all (fun x => !x.1) && (backToKw cpos (keywordEach [] env)).all (fun x => x.1.isSome)
      && decide (es.length + ([] : List Keyword).length + (if ([] : List Keyword).isEmpty then 0 else 1) < 30)) = true := by
  have h1 : (backTo cpos (starEach es env)).all (fun x => !x.1) = true := by
    have := star_any (pos := cpos) (env := env) h
    rw [List.all_eq_not_any_not]
    simp only [Bool.not_not]
    rw [this]; rfl
  rw [h1]
  simp [backToKw, keywordEach]
  omega
theorem base_of {m : Str} {w : Sem Value} (h : noSup o = true) : attributeBase o m env w = w := by
  cases o with
  | Call f args kws p =>
    cases f with
    | Name id q =>
      cases args with
      | nil =>
        cases kws with
        | nil => exact absurd h (by simp [noSup])
        | cons _ _ => rfl
      | cons _ _ => rfl
    | _ => rfl
  | _ => rfl
theorem plain_ix (h : noSlice e = true) : PlainIx e := by
  intro o i
  cases e <;> first | rfl | (exact absurd h (by simp [noSlice]))
theorem no_mark {op : CmpOp} (h : noSet e = true) : behindInMarks op e = false := by
  cases e <;> first | rfl | (exact absurd h (by simp [noSet]))
theorem no_swap {t : Option Expr} {l : Nat} (h : noComp e = true) : swapsWith e t l env = pure false := by
  cases e <;> first | rfl | (exact absurd h (by simp [noComp]))
theorem no_fold (h : noSet e = true) : ∀ x, foldedSetIterable e env x = pure x := by
  intro x
  cases e <;> first | rfl | (exact absurd h (by simp [noSet]))
theorem plain_t (h : plainT e = true) : ∀ whole, isTrue e env whole = (do let v ← whole; standAt e.pos; holding [v] (PySem.truthy v)) := by
  intro w
  cases e <;> first | rfl | (exact absurd h (by simp [plainT]))
end
end Lk

namespace Lk
open PySem L2
structure Kx where
  N : List Str
  sc : Scope
  fnl : List Str
  self : Option Str := none
def okN (x : Str) : Bool := !(x == ("__debug__" : Str)) && !(x == ("__classdict__" : Str))
def visB (sc : Scope) (x : Str) : Bool := match sc.names.lookup x with
  | some .local => true
  | some .cell => true
  | some .free => true
  | _ => false
def varB (c : Kx) (i : Nat) (x : Str) : Bool := decide (c.N[i]? = some x) && (visB c.sc x && okN x)
def glB (c : Kx) (x : Str) : Bool := decide (c.sc.names.lookup x = some .globalImplicit) && (!(x == ("__debug__" : Str)) && !decide (x = ("__name__" : Str)))
def locB (c : Kx) (x : Str) : Bool := match c.sc.names.lookup x with
  | some .local => true
  | some .cell => decide (x ∈ c.fnl)
  | _ => false
def tgB (c : Kx) (i : Nat) (x : Str) : Bool := decide (c.N[i]? = some x) && locB c x
def cstB : PV → Const → Bool
  | .non, .none => true
  | .bl b, .bool d => b == d
  | .int i, .int j => decide (i = j)
  | .str s, .str x => decide (x = ⟨s.toArray⟩)
  | _, _ => false
def primN : Prim → Str
  | .len => "len" | .int => "int" | .str => "str" | .tuple => "tuple" | .list => "list" | .sorted => "sorted" | .all => "all" | .any => "any" | .sum => "sum" | .max => "max" | .min => "min" | .abs => "abs"
def metN : Met → Str
  | .join => "join" | .index => "index" | .get => "get"
def mthN : Mth → Str
  | .append => "append" | .extend => "extend" | .pop => "pop" | .reverse => "reverse" | .clear => "clear" | .setdefault => "setdefault" | .insert => "insert"
def bltNames : List Str := ["len", "int", "str", "tuple", "list", "sorted", "all", "any", "sum", "max", "min", "abs", "isinstance", "dict", "bool", "range", "enumerate", "zip", "set", "reversed"]
def isBO : Expr → Bool
  | .BoolOp .. => true
  | _ => false
/-- a test may stand so -/
def tstB (e : XE) (p : Expr) : Bool := match e with
  | .nvr => true
  | .tand .. => true
  | .tor .. => true
  | .not _ => true
  | .cmp .. => true
  | .cmp2 .. => true
  | _ => plainT p
def subK (c : Kx) (scope : Scope) : Kx := ⟨c.N, relS scope c.sc, (scope.names.filter fun y => decide (y.2 = .cell)).map (·.1), c.self⟩
def ownP (N : List Str) (own : List Nat) : List (Str × Nat) := own.map fun i => (N.getD i (Str.ofString ""), i)
def noneE : Option Expr → Bool
  | none => true
  | _ => false
/-- a slice's part -/
def poB (lo : XE) (f : Expr → Bool) (l : Option Expr) : Bool := match lo with
  | .nop => noneE l
  | _ => match l with
    | some pl => f pl
    | none => false
mutual
def tgIx : XT → List Nat
  | .name i => [i]
  | .tup ts => tgIxs ts
def tgIxs : XTs → List Nat
  | .nil => []
  | .cons t r => tgIx t ++ tgIxs r
end
mutual
def chkG : XT → Kx → Expr → Bool
  | .name i, c, p => match p with
    | .Name x _ => tgB c i x
    | _ => false
  | .tup ts, c, p => match p with
    | .Tuple ps _ _ => chkGs ts c ps
    | _ => false
def chkGs : XTs → Kx → List Expr → Bool
  | .nil, _, ps => match ps with
    | [] => true
    | _ => false
  | .cons t r, c, ps => match ps with
    | p :: q => chkG t c p && chkGs r c q
    | _ => false
end
def isTupE : Expr → Bool
  | .Tuple .. => true
  | _ => false
/-- the classes of an isinstance -/
def nmsB (c : Kx) : List String → List Expr → Bool
  | [], [] => true
  | s :: r, .Name x _ :: q => decide (x = (s : Str)) && (glB c x && nmsB c r q)
  | _, _ => false
def clsB (c : Kx) (cs : List String) (p : Expr) : Bool := match p with
  | .Name x pos => nmsB c cs [.Name x pos]
  | .Tuple ps _ _ => decide (cs.length ≤ 30) && nmsB c cs ps
  | _ => false
mutual
def chkE : XE → Kx → Bool → Expr → Bool
  | .nvr, _, _, _ => true
  | .var i, c, _, p => match p with
    | .Name x _ => varB c i x
    | _ => false
  | .cst v, _, _, p => match p with
    | .Constant k _ _ => cstB v k
    | _ => false
  | .glb x _, c, _, p => match p with
    | .Name y _ => decide (y = (x : Str)) && glB c y
    | _ => false
  | .bin op a b, c, _, p => match p with
    | .BinOp pa o pb _ => decide (o = toB op) && (chkE a c false pa && chkE b c false pb)
    | _ => false
  | .neg a, c, _, p => match p with
    | .UnaryOp .USub pa _ => chkE a c false pa
    | _ => false
  | .not a, c, t, p => match p with
    | .UnaryOp .Not pa _ => if t then tstB a pa && chkE a c true pa else chkE a c false pa
    | _ => false
  | .cmp op a b, c, _, p => match p with
    | .Compare pa [o] [pb] _ => decide (o = toC op) && (noSet pb && (chkE a c false pa && chkE b c false pb))
    | _ => false
  | .cmp2 op op' a b d, c, _, p => match p with
    | .Compare pa [o, o'] [pb, pd] _ => decide (o = toC op) && (decide (o' = toC op') && (noSet pd && (chkE a c false pa && (chkE b c false pb && chkE d c false pd))))
    | _ => false
  | .and a b, c, _, p => match p with
    | .BoolOp .And (pa :: pb :: r) pos => chkE a c false pa && (match r with
      | [] => chkE b c false pb
      | _ => isBO (.BoolOp .And (pb :: r) pos) && chkE b c false (.BoolOp .And (pb :: r) pos))
    | _ => false
  | .or a b, c, _, p => match p with
    | .BoolOp .Or (pa :: pb :: r) pos => chkE a c false pa && (match r with
      | [] => chkE b c false pb
      | _ => isBO (.BoolOp .Or (pb :: r) pos) && chkE b c false (.BoolOp .Or (pb :: r) pos))
    | _ => false
  | .tand a b, c, t, p => match p with
    | .BoolOp .And (pa :: pb :: r) pos => t && (tstB a pa && (chkE a c true pa && (match r with
      | [] => tstB b pb && chkE b c true pb
      | _ => tstB b (.BoolOp .And (pb :: r) pos) && chkE b c true (.BoolOp .And (pb :: r) pos))))
    | _ => false
  | .tor a b, c, t, p => match p with
    | .BoolOp .Or (pa :: pb :: r) pos => t && (tstB a pa && (chkE a c true pa && (match r with
      | [] => tstB b pb && chkE b c true pb
      | _ => tstB b (.BoolOp .Or (pb :: r) pos) && chkE b c true (.BoolOp .Or (pb :: r) pos))))
    | _ => false
  | .ite d a b, c, _, p => match p with
    | .IfExp pd pa pb _ => tstB d pd && (chkE d c true pd && (chkE a c false pa && chkE b c false pb))
    | _ => false
  | .lst es, c, _, p => match p with
    | .List ps _ => noStL ps && chkA es c ps
    | _ => false
  | .tup es, c, _, p => match p with
    | .Tuple ps _ _ => noStL ps && chkA es c ps
    | _ => false
  | .dic es, c, _, p => match p with
    | .Dict ks vs _ => decide (ks ≠ [] ∧ ks.length ≤ 15) && chkD es c ks vs
    | _ => false
  | .dnew _, _, _, p => match p with
    | .Dict [] [] _ => true
    | _ => false
  | .nref e, c, _, p => noComp p && chkE e c false p
  | .idx a i, c, _, p => match p with
    | .Subscript pa pi _ => noSlice pi && (chkE a c false pa && chkE i c false pi)
    | _ => false
  | .slc a lo hi, c, _, p => match p with
    | .Subscript pa (.Slice l h none _) _ => chkE a c false pa && (poB lo (fun q => chkE lo c false q) l && poB hi (fun q => chkE hi c false q) h)
    | _ => false
  | .nop, _, _, _ => false
  | .rev a, c, _, p => match p with
    | .Subscript pa (.Slice none none (some (.UnaryOp .USub (.Constant k _ _) _)) _) _ => cstB (.int 1) k && chkE a c false pa
    | _ => false
  | .call f es, c, _, p => match p with
    | .Call (.Name x _) ps [] _ => (match f with | .mk nm _ _ _ _ => decide (x = (nm : Str))) && (glB c x && (noStL ps && chkA es c ps))
    | _ => false
  | .self es, c, _, p => match p with
    | .Call (.Name x _) ps [] _ => decide (c.self = some x) && (glB c x && (noStL ps && chkA es c ps))
    | _ => false
  | .prm f es, c, _, p => match p with
    | .Call (.Name x _) ps [] _ => decide (x = primN f) && (glB c x && (noStL ps && (!ps.isEmpty && chkA es c ps)))
    | _ => false
  | .isin a _ cs, c, _, p => match p with
    | .Call (.Name x _) [pa, pc] [] _ => decide (x = ("isinstance" : Str)) && (glB c x && (noSt pa && (chkE a c false pa && clsB c cs pc)))
    | _ => false
  | .met m o es, c, _, p => match p with
    | .Call (.Attribute po x apos) ps [] cpos => decide (x = metN m) && (noSup po && (decide (apos.endLine = cpos.line) && (noStL ps && (decide (ps.length < 30) && (chkE o c false po && chkA es c ps)))))
    | _ => false
  | .mut m o es, c, _, p => match p with
    | .Call (.Attribute po x apos) ps [] cpos => decide (x = mthN m) && (noSup po && (decide (apos.endLine = cpos.line) && (noStL ps && (decide (ps.length < 30) && (chkE o c false po && chkA es c ps)))))
    | _ => false
  | .comp own t it d e, c, _, p => match p with
    | .ListComp pe [⟨pt, pi, ifs, 0⟩] scope _ => noSet pi && (blkC c.N c.sc scope (ownP c.N own) && ((tgIx t).all (fun i => decide (i ∈ own)) && (chkG t (subK c scope) pt && (chkI it c pt pi && (chkE e (subK c scope) false pe && (match ifs with
      | [] => (match d with | .cst (.bl true) => true | _ => false)
      | [pd] => tstB d pd && chkE d (subK c scope) true pd
      | _ => false))))))
    | _ => false
  | .dcomp own t it d k e, c, _, p => match p with
    | .DictComp pk pe [⟨pt, pi, ifs, 0⟩] scope _ => noSet pi && (blkC c.N c.sc scope (ownP c.N own) && ((tgIx t).all (fun i => decide (i ∈ own)) && (chkG t (subK c scope) pt && (chkI it c pt pi && (chkE k (subK c scope) false pk && (chkE e (subK c scope) false pe && (match ifs with
      | [] => (match d with | .cst (.bl true) => true | _ => false)
      | [pd] => tstB d pd && chkE d (subK c scope) true pd
      | _ => false)))))))
    | _ => false
  | .fld a _ f, c, _, p => match p with
    | .Attribute pa x _ => decide (x = (f : Str)) && (noSup pa && chkE a c false pa)
    | _ => false
  | .make C _ es, c, _, p => match p with
    | .Call (.Name x _) ps [] _ => decide (x = (C : Str)) && (glB c x && (noStL ps && (!ps.isEmpty && chkA es c ps)))
    | _ => false
def chkA : XEs → Kx → List Expr → Bool
  | .nil, _, ps => match ps with
    | [] => true
    | _ => false
  | .cons e r, c, ps => match ps with
    | p :: q => chkE e c false p && chkA r c q
    | _ => false
/-- keys and values -/
def chkD : XEs → Kx → List (Option Expr) → List Expr → Bool
  | .nil, _, ks, vs => match ks, vs with
    | [], [] => true
    | _, _ => false
  | .cons k r, c, ks, vs => match ks with
    | some pk :: ks => chkE k c false pk && chkD' r c ks vs
    | _ => false
def chkD' : XEs → Kx → List (Option Expr) → List Expr → Bool
  | .nil, _, _, _ => false
  | .cons v r, c, ks, vs => match vs with
    | pv :: vs => chkE v c false pv && chkD r c ks vs
    | _ => false
def chkI : XI → Kx → Expr → Expr → Bool
  | .val e, c, _, p => chkE e c false p
  | .rng1 a, c, _, p => match p with
    | .Call (.Name x _) [pa] [] _ => decide (x = ("range" : Str)) && (glB c x && (noSt pa && chkE a c false pa))
    | _ => false
  | .rng2 a b, c, _, p => match p with
    | .Call (.Name x _) [pa, pb] [] _ => decide (x = ("range" : Str)) && (glB c x && (noSt pa && (noSt pb && (chkE a c false pa && chkE b c false pb))))
    | _ => false
  | .enum a, c, t, p => match p with
    | .Call (.Name x _) [pa] [] _ => isTupE t && (decide (x = ("enumerate" : Str)) && (glB c x && (noSt pa && chkE a c false pa)))
    | _ => false
  | .zip a b, c, t, p => match p with
    | .Call (.Name x _) [pa, pb] [] _ => isTupE t && (decide (x = ("zip" : Str)) && (glB c x && (noSt pa && (noSt pb && (chkE a c false pa && chkE b c false pb)))))
    | _ => false
  | .items a, c, t, p => match p with
    | .Call (.Attribute pa x apos) [] [] cpos => isTupE t && (decide (x = ("items" : Str)) && (noSup pa && (decide (apos.endLine = cpos.line) && chkE a c false pa)))
    | _ => false
  | .values a, c, _, p => match p with
    | .Call (.Attribute pa x apos) [] [] cpos => decide (x = ("values" : Str)) && (noSup pa && (decide (apos.endLine = cpos.line) && chkE a c false pa))
    | _ => false
end
end Lk

namespace Lk
open PySem L2
structure Gv where
  P : Program
  w : World
  K : PySem.W.Frag
  mg : Str → Option Value
  base : Heap
  cl : String → Option Addr
abbrev gv (cl : String → Option Addr) (X : Cx) : Gv := ⟨X.prog, X.w, X.K, X.mg, X.base, cl⟩
/-- a callee's result -/
def ResF (K : PySem.W.Frag) (cl : String → Option Addr) (H : Hp) (W' : Wd) (H' : Hp) (v : V) (r : PV × Bool) : Prop := match r.2 && isCont r.1 with
  | true => ∃ a, v = .ref a ∧ At K cl W' H' a r.1 ∧ W'.F a = none ∧ a ∉ W'.inj ∧ H a = none
  | false => Rep K cl W' r.1 v
def spFn (K : PySem.W.Frag) (cl : String → Option Addr) (np : Nat) (F : Fn) : Sp := fun vs H Q E => vs.length = np ∧ ∃ W args mu out mu', RM K cl W mu H ∧ RepL K cl W args vs ∧ F args mu = some (out, mu') ∧
  (∀ r, out = .ok r → ∀ v W' H', Ext W H W' H' → RM K cl W' mu' H' → ResF K cl H W' H' v r → Q v H') ∧
  (∀ c fs, out = .exc c fs → ∀ cls d W' H', Ext W H W' H' → RM K cl W' mu' H' → ExR K cl W' H' cls d c fs → E cls d H')
def FnKn (G : Gv) (k : Nat) (x : Str) (F : Fn) : Prop := ∃ np a fd ps, (∀ args mu r, F args mu = some r → args.length = np) ∧ G.mg x = some (.ref a) ∧ PySem.W.keepIn G.K (.ref a) = true ∧ Binds G.K fd ps [] ∧
  FnOk G.P G.w G.K G.mg G.base (L2.CX G.P G.w) k a fd ps (spFn G.K G.cl np F)
theorem ff {P : Prop} (h : false = true) : P := Bool.noConfusion h
/-- a class with its __init__ -/
def InKn (G : Gv) (k : Nat) (C : String) (F : Fn) : Prop := ∃ np c fI fd ps k', k' + 1 ≤ k ∧ (∀ args mu r, F args mu = some r → args.length = np) ∧ G.mg C = some (.ref c) ∧ G.cl C = some c ∧ Mk G.K c fI ∧ Binds G.K fd ps [] ∧
  FnOk G.P G.w G.K G.mg G.base (L2.CX G.P G.w) k' fI fd ps (spFn G.K G.cl np F)
def XF.name : XF → String
  | .mk n _ _ _ _ => n
def btN : List String := ["int", "str", "list", "tuple", "dict", "bool"]
def tyN : List String := ["NoneType", "bool", "int", "str", "list", "tuple", "dict"]
def clsVal (G : Gv) (c : String) : Value := if c ∈ btN then .type c else match G.cl c with
  | some C => .ref C
  | none => .none
def IsN (G : Gv) (ds cs : List String) : Prop := (∀ c ∈ cs, c ∈ btN ∨ c ∉ tyN ∧ ∃ C, G.cl c = some C ∧ G.mg c = some (.ref C) ∧ ∀ T ∈ tyN, PySem.W.kitOne G.K (.type T) (.ref C) = some false) ∧
  ∀ D ∈ ds, ∃ d, G.cl D = some d ∧ (∀ (H : Hp) (a dx : Addr) (fs : List (Str × V)), H a = some (.ins d dx fs) → TyX G.K H (.ref a) (.ref d)) ∧ ∀ c ∈ cs, PySem.W.kitOne G.K (.ref d) (clsVal G c) = some (D == c)
mutual
/-- what is leant on -/
def NdE (G : Gv) (k : Nat) : XE → Prop
  | .nvr => True
  | .var _ => True
  | .cst _ => True
  | .glb x v => ∃ u y, G.mg x = some u ∧ RelV y u ∧ ∀ W, Rep G.K G.cl W v y
  | .bin _ a b => NdE G k a ∧ NdE G k b
  | .neg a => NdE G k a
  | .not a => NdE G k a
  | .cmp _ a b => NdE G k a ∧ NdE G k b
  | .cmp2 _ _ a b c => NdE G k a ∧ NdE G k b ∧ NdE G k c
  | .and a b => NdE G k a ∧ NdE G k b
  | .or a b => NdE G k a ∧ NdE G k b
  | .tand a b => NdE G k a ∧ NdE G k b
  | .tor a b => NdE G k a ∧ NdE G k b
  | .ite c a b => NdE G k c ∧ NdE G k a ∧ NdE G k b
  | .lst es => NdA G k es
  | .tup es => NdA G k es
  | .dic es => NdA G k es
  | .dnew _ => True
  | .nref e => NdE G k e
  | .idx a i => NdE G k a ∧ NdE G k i
  | .slc a l h => NdE G k a ∧ NdE G k l ∧ NdE G k h
  | .nop => True
  | .rev a => NdE G k a
  | .call f es => FnKn G k f.name (evF f) ∧ NdA G k es
  | .self es => NdA G k es
  | .prm _ es => NdA G k es
  | .isin a ds cs => NdE G k a ∧ IsN G ds cs
  | .met _ o es => NdE G k o ∧ NdA G k es
  | .mut _ o es => NdE G k o ∧ NdA G k es
  | .comp _ _ it c e => NdI G k it ∧ NdE G k c ∧ NdE G k e
  | .dcomp _ _ it c kk e => NdI G k it ∧ NdE G k c ∧ NdE G k kk ∧ NdE G k e
  | .fld a C f => (∃ c, G.cl C = some c ∧ Cls G.K c ∧ NoAttr G.K c (f : Str)) ∧ NdE G k a
  | .make C f es => InKn G k C (evF f) ∧ NdA G k es
def NdA (G : Gv) (k : Nat) : XEs → Prop
  | .nil => True
  | .cons e r => NdE G k e ∧ NdA G k r
def NdI (G : Gv) (k : Nat) : XI → Prop
  | .val e => NdE G k e
  | .rng1 a => NdE G k a
  | .rng2 a b => NdE G k a ∧ NdE G k b
  | .enum e => NdE G k e
  | .zip a b => NdE G k a ∧ NdE G k b
  | .items e => NdE G k e
  | .values e => NdE G k e
end
/-- a body's context -/
structure Gd (cl : String → Option Addr) (X : Cx) (c : Kx) (k : Nat) (Wx : WX) (F : Fn) : Prop where
  N : X.N = c.N
  nd : X.N.Nodup
  sc : X.env.scope = c.sc
  kind : X.env.scope.kind = .function
  calm : X.calm = true
  room : Room k X.A
  tk : Takes X Wx
  fn : ∀ x ∈ c.fnl, X.fn x = true
  blt : ∀ x ∈ bltNames, X.mg x = none
  self : ∀ x, c.self = some x → FnKn (gv cl X) k x F
/-- stored in a local -/
def AsgN (X : Cx) (c : Kx) (p : Expr) (te : TE) : Prop := ∀ (i : Nat) (y : Str) (py spos : Pos), X.N[i]? = some y → locB c y = true → PS X (.Assign [.Name y py] p spos) (tAsg te (gName i))
def SV (e : XE) : Prop := ∀ {cl : String → Option Addr} {X : Cx} {c : Kx} {k : Nat} {Wx : WX} {F : Fn} {p : Expr}, Gd cl X c k Wx F → chkE e c false p = true → NdE (gv cl X) k e → ∃ te, PE X p te ∧ AsgN X c p te ∧ JG X.K cl Wx te (evR e F) (rRes X.K cl)
def ST (e : XE) : Prop := ∀ {cl : String → Option Addr} {X : Cx} {c : Kx} {k : Nat} {Wx : WX} {F : Fn} {p : Expr}, Gd cl X c k Wx F → chkE e c true p = true → tstB e p = true → NdE (gv cl X) k e →
    ∃ tt, PT X p tt ∧ (isBO p = true → PW X p tt) ∧ JG X.K cl Wx tt (fun s => tst e (evR e F s) s) rBl
structure SE (e : XE) : Prop where
  pe : SV e
  pt : ST e
section
variable {cl : String → Option Addr} {X : Cx} {c : Kx} {k : Nat} {Wx : WX} {F : Fn} {p : Expr} {e : XE}
theorem Gd.hu (g : Gd cl X c k Wx F) : X.A.units + 65 < cLine := by have := g.room.un; omega
theorem Gd.loc (g : Gd cl X c k Wx F) {x : Str} (h : locB c x = true) : Loc X.env.scope x ∧ (X.fn x = true ∨ X.env.scope.names.lookup x = some .local) := by
  rw [g.sc]
  unfold locB at h
  split at h
  · rename_i q; exact ⟨.inl q, .inr q⟩
  · rename_i q; exact ⟨.inr q, .inl (g.fn x (by simpa using h))⟩
  · cases h
theorem Gd.gl (g : Gd cl X c k Wx F) {x : Str} (h : glB c x = true) : Gl X x ∧ (x == ("__debug__" : Str)) = false ∧ x ≠ "__name__" := by
  unfold glB at h
  simp only [Bool.and_eq_true, decide_eq_true_eq, Bool.not_eq_true'] at h
  refine ⟨?_, h.2.1, by simpa using h.2.2⟩
  show X.env.scope.names.lookup x = _
  rw [g.sc]; exact h.1
theorem asg_of {te : TE} (g : Gd cl X c k Wx F) (he : PE X p te) (hn : noComp p = true) : AsgN X c p te := fun i y py spos hi hl =>
  let ⟨h1, h2⟩ := g.loc hl
  ps_set g.nd hi h1 he (no_swap hn) h2
theorem vis_of (h : visB X.env.scope p' = true) : Vis X.env.scope p' := by
  unfold visB at h
  unfold Vis
  split at h
  · exact .inl (by assumption)
  · exact .inr (.inl (by assumption))
  · exact .inr (.inr (by assumption))
  · cases h
theorem pe_varB (g : Gd cl X c k Wx F) {i : Nat} {x : Str} {pos : Pos} (h : varB c i x = true) : PE X (.Name x pos) (tVar i) := by
  unfold varB okN at h
  simp only [Bool.and_eq_true, decide_eq_true_eq, Bool.not_eq_true'] at h
  exact pe_var (by rw [g.N]; exact h.1) (vis_of (by rw [g.sc]; exact h.2.1)) h.2.2.1 h.2.2.2
/-- a value, frozen -/
theorem je_of {te : TE} {m : Sg → Rs (PV × Bool)} (J : JG X.K cl Wx te m (rRes X.K cl)) : JG X.K cl Wx (tFz te) (fun s => fz (m s)) (rVal X.K cl) := by
  intro W0 H0 W s σ H Q out s' R h hok hx
  refine J.go R h hx (fun r s1 h1 v W1 H1 l1 R1 res => ?_)
  obtain ⟨rfl, rfl⟩ := rt_inj h1
  have res' : Res X.K cl W0 H0 W1 s' σ H1 v r := res
  unfold Res at res'
  split at res'
  · rename_i hb
    simp only [Bool.and_eq_true] at hb
    obtain ⟨a, ev, fr⟩ := res'
    obtain ⟨pv, bb⟩ := r
    simp only at hb fr hok ⊢
    have fz := fun o => R1.freeze (o := o) fr.at_ fr.f fr.i fr.z fr.o
    have le := fun o => Wd.le_add (W := W1) (a := a) (o := o) fr.f
    have at_ := fr.at_
    cases pv with
    | lst ps =>
      obtain ⟨xs, ea, ra⟩ := at_
      refine .inl (hok _ rfl v (W1.add a (.lst xs)) H1 (l1.trans (le _)) ?_ ?_)
      · have q := fz (.lst xs)
        have e : upd H1 a (.lst xs) = H1 := by
          funext b
          by_cases eb : b = a
          · subst eb; rw [upd_same, ea]
          · rw [upd_ne eb]
        rw [e] at q; exact q
      · show Rep X.K cl _ (.lst ps) v
        unfold Rep
        exact ⟨a, xs, ev, upd_same, RepL.mono (le _) _ _ ra⟩
    | dic t kvs =>
      cases t
      · obtain ⟨l, ea, ra⟩ := at_
        refine .inr ⟨a, _, ev, ea, True.intro, fun od => hok _ rfl v (W1.add a (.frz od (.dK l))) _ (l1.trans (le _)) (fz _) ?_⟩
        show Rep X.K cl _ (.dic false kvs) v
        unfold Rep
        exact ⟨a, od, l, ev, upd_same, RepK.mono (le _) _ _ ra⟩
      · obtain ⟨l, ea, ra⟩ := at_
        refine .inr ⟨a, _, ev, ea, True.intro, fun od => hok _ rfl v (W1.add a (.frz od (.dT l))) _ (l1.trans (le _)) (fz _) ?_⟩
        show Rep X.K cl _ (.dic true kvs) v
        unfold Rep
        exact ⟨a, od, l, ev, upd_same, RepT.mono (le _) _ _ ra⟩
    | _ => exact absurd hb.2 (by simp [isCont])
  · exact .inl (hok _ rfl v W1 H1 l1 R1 res')
theorem SV.je (S : SV e) (g : Gd cl X c k Wx F) (h : chkE e c false p = true) (nd : NdE (gv cl X) k e) : ∃ te, PE X p te ∧ JG X.K cl Wx te (fun s => fz (evR e F s)) (rVal X.K cl) := by
  obtain ⟨te, h1, _, J⟩ := S g h nd
  exact ⟨_, pe_fz h1, je_of J⟩
theorem jp_var (g : Gd cl X c k Wx F) {i : Nat} {m : Sg → Rs (PV × Bool)} : JG X.K cl Wx (tVar i) (fun s => plc (.var i) (m s) s) (rPl X.K cl) := by
  intro W0 H0 W s σ H Q out s' R h hok hx
  have h' : (if setB s i then rt (Pl.sl i) s else none) = some (out, s') := h
  split at h'
  · rename_i hb
    obtain ⟨rfl, rfl⟩ := rt_inj h'
    have hv : ∃ v, σ[i]? = some (some v) := by
      unfold setB at hb
      split at hb
      · rename_i q hq
        obtain ⟨v, e, _⟩ := R.val i q hq; exact ⟨v, e⟩
      · rename_i q hq
        obtain ⟨a, e, _⟩ := R.own i q hq; exact ⟨_, e⟩
      · cases hb
    obtain ⟨v, ev⟩ := hv
    exact ⟨v, ev, hok _ rfl v W H (.refl W) R ev⟩
  · cases h'
theorem plc_nv (h : ∀ i, e ≠ .var i) (m : Rs (PV × Bool)) (s : Sg) : plc e m s = bd m fun a s => rt (.v a.1) s := by
  unfold plc
  split
  · exact absurd rfl (h _)
  · rfl
/-- a place -/
theorem SV.jp (S : SV e) (g : Gd cl X c k Wx F) (h : chkE e c false p = true) (nd : NdE (gv cl X) k e) : ∃ te, PE X p te ∧ JG X.K cl Wx te (fun s => plc e (evR e F s) s) (rPl X.K cl) := by
  have gen : (∀ s, plc e (evR e F s) s = bd (fz (evR e F s)) fun v s => rt (.v v) s) → ∃ te, PE X p te ∧ JG X.K cl Wx te (fun s => plc e (evR e F s) s) (rPl X.K cl) := fun heq => by
    obtain ⟨te, h1, J⟩ := S.je g h nd
    refine ⟨te, h1, ?_⟩
    intro W0 H0 W s σ H Q out s' R hh hok hx
    have hh : plc e (evR e F s) s = some (out, s') := hh
    rw [heq] at hh
    refine J.go R hh hx (fun r s1 h1 v W1 H1 l1 R1 res => ?_)
    obtain ⟨rfl, rfl⟩ := rt_inj h1
    exact hok _ rfl v W1 H1 l1 R1 res
  have hb : ∀ m : Rs (PV × Bool), (bd m fun a s => rt (Pl.v a.1) s) = bd (fz m) fun v s => rt (.v v) s := fun m => by
    unfold fz
    cases m with
    | none => rfl
    | some q => obtain ⟨r, s1⟩ := q; cases r <;> rfl
  cases e with
  | var i =>
    cases p with
    | Name x pos => exact ⟨_, pe_varB g h, jp_var g⟩
    | _ => exact ff h
  | _ => exact gen fun s => (plc_nv (by intro i q; cases q) _ _).trans (hb _)
/-- a plain test -/
theorem SV.plain (S : SV e) (g : Gd cl X c k Wx F) (h : chkE e c false p = true) (ht : plainT p = true) (nd : NdE (gv cl X) k e) :
    ∃ tt, PT X p tt ∧ (isBO p = true → PW X p tt) ∧ JG X.K cl Wx tt (fun s => tst e (evR e F s) s) rBl := by
  obtain ⟨te, h1, J⟩ := S.jp g h nd
  refine ⟨_, pt_truthP (r := rTru X.K cl) tru_okP h1 (plain_t ht), fun hb => ?_, ?_⟩
  · cases p with
    | BoolOp _ _ _ => cases ht
    | _ => cases hb
  · intro W0 H0 W s σ H Q out s' R hh hok hx
    refine J.go R hh hx (fun r s1 h1 v W1 H1 l1 R1 res => ?_)
    obtain ⟨x, ex, h2⟩ := op1_cases h1
    obtain ⟨b, eb, h3⟩ := op1_cases h2
    obtain ⟨rfl, rfl⟩ := rt_inj h3
    exact ⟨W1, x, b, R1.rm.sub, look_ok R1 res ex, eb, hok _ rfl b W1 H1 l1 R1 rfl⟩
/-- from what it says as a value -/
theorem SV.mk (S : SV e) (hf : ∀ c p, chkE e c true p = true → chkE e c false p = true) (hp : ∀ p, tstB e p = true → plainT p = true) : SE e :=
  ⟨S, fun g h ht nd => S.plain g (hf _ _ h) (hp _ ht) nd⟩
end
end Lk

namespace Lk
open PySem L2
section
variable {cl : String → Option Addr} {X : Cx} {c : Kx} {k : Nat} {Wx : WX} {F : Fn} {p : Expr}
theorem and_t {a b : Bool} (h : (a && b) = true) : a = true ∧ b = true := by simpa using h
theorem dec_t {P : Prop} [Decidable P] (h : decide P = true) : P := of_decide_eq_true h
/-- the end: a value that stands or is new -/
theorem hok_new {W0 W W1 : Wd} {H0 H1 H' : Hp} {s' : Sg} {σ : L2.St} {v : V} {r : PV × Bool} {Q : V → Hp → Prop} {out : R (PV × Bool)} (ho : out = .ok r)
    (hok : ∀ a, out = .ok a → ∀ v W' H', W.le W' → Rl X.K cl W0 H0 W' s' σ H' → rRes X.K cl W0 H0 W' s' σ H' v a → Q v H') (l : W.le W1) (R : Rl X.K cl W0 H0 W1 s' σ H1) (n : New X.K cl W1 H1 H' v r) : Q v H' :=
  let ⟨_, l3, R3, r3⟩ := fin_new R n
  hok _ ho v _ H' (l.trans l3) R3 r3
theorem res_val {W0 W : Wd} {H0 H : Hp} {s : Sg} {σ : L2.St} {v : V} {q : PV} (h : Rep X.K cl W q v) : rRes X.K cl W0 H0 W s σ H v (q, false) := by
  show Res X.K cl W0 H0 W s σ H v (q, false)
  unfold Res
  exact h
/-- a slot's own object is frozen -/
theorem own_freeze {K : PySem.W.Frag} {W0 W : Wd} {H0 H : Hp} {s : Sg} {σ : L2.St} {i : Nat} {q : PV} {a : Addr} (R : Rl K cl W0 H0 W s σ H) (hq : s.env[i]? = some (.own q)) (ea : σ[i]? = some (some (.ref a))) (o : HO) (hc : isCont q = true)
    (hr : Rep K cl (W.add a o) q (.ref a)) : Rl K cl W0 H0 (W.add a o) { s with env := s.env.set i (.val q) } σ (upd H a o) ∧ W.le (W.add a o) := by
  obtain ⟨a', ea', t, f, n, z⟩ := R.own i q hq
  have : a' = a := by rw [ea] at ea'; simpa using ea'.symm
  subst this
  have hil : i < s.env.length := (List.getElem?_eq_some_iff.mp hq).1
  have R1 : Rl K cl W0 H0 W { s with env := s.env.set i .non } σ H := R.env (by simp) (fun j p h => by
    by_cases nj : j = i
    · subst nj; rw [List.getElem?_set_self hil] at h; cases h
    · rw [List.getElem?_set_ne (Ne.symm nj)] at h; exact .inl h) (fun j p h => by
    by_cases nj : j = i
    · subst nj; rw [List.getElem?_set_self hil] at h; cases h
    · rw [List.getElem?_set_ne (Ne.symm nj)] at h; exact h)
  have R2 := R1.freeze (o := o) t f n z (fun j p h he => by
    have h' : (s.env.set i .non)[j]? = some (.own p) := h
    by_cases nj : j = i
    · subst nj; rw [List.getElem?_set_self hil] at h'; cases h'
    · rw [List.getElem?_set_ne (Ne.symm nj)] at h'
      exact nj (R.dist j i p q a' h' hq he ea))
  refine ⟨?_, Wd.le_add f⟩
  have R3 := R2.env (env' := s.env.set i (.val q)) (by simp) (fun j p h => by
    by_cases nj : j = i
    · subst nj
      rw [List.getElem?_set_self hil] at h; cases h
      exact .inr ⟨_, ea, hr⟩
    · rw [List.getElem?_set_ne (Ne.symm nj)] at h
      refine .inl ?_
      show (s.env.set i .non)[j]? = _
      rw [List.getElem?_set_ne (Ne.symm nj)]; exact h) (fun j p h => by
    by_cases nj : j = i
    · subst nj; rw [List.getElem?_set_self hil] at h; cases h
    · rw [List.getElem?_set_ne (Ne.symm nj)] at h
      show (s.env.set i .non)[j]? = _
      rw [List.getElem?_set_ne (Ne.symm nj)]; exact h)
  exact R3
theorem upd_self {H : Hp} {a : Addr} {o : HO} (h : H a = some o) : upd H a o = H := by
  funext b
  by_cases eb : b = a
  · subst eb; rw [upd_same, h]
  · rw [upd_ne eb]
theorem se_nvr : SE .nvr := ⟨fun {cl X c k Wx F p} g h nd => ⟨fun _ _ _ => False, ⟨fun _ _ _ _ _ _ h => h.elim⟩, fun i y py spos _ _ => ⟨fun _ _ _ _ _ _ h => h.elim⟩, fun _ _ _ _ _ _ _ _ _ _ e _ _ => (by cases e)⟩,
  fun {cl X c k Wx F p} g h ht nd => ⟨fun _ _ _ => False, ⟨fun _ _ _ _ _ _ h => h.elim⟩, fun _ => ⟨fun _ _ _ _ _ _ _ h => h.elim⟩, fun _ _ _ _ _ _ _ _ _ _ e _ _ => (by cases e)⟩⟩
theorem sv_var {i : Nat} : SV (.var i) := fun {cl X c k Wx F p} g h nd => by
  cases p with
  | Name x pos =>
    refine ⟨tFz (tVar i), pe_fz (pe_varB g h), asg_of g (pe_fz (pe_varB g h)) rfl, ?_⟩
    intro W0 H0 W s σ H Q out s' R hh hok hx
    have h' : (match s.env[i]? with
      | some (.val p) => rt (p, false) s
      | some (.own p) => if isCont p then rt (p, false) { s with env := s.env.set i (.val p) } else none
      | _ => none) = some (out, s') := hh
    split at h'
    · rename_i q hq
      obtain ⟨rfl, rfl⟩ := rt_inj h'
      obtain ⟨v, ev, r⟩ := R.val i q hq
      exact ⟨v, ev, .inl (hok _ rfl v W H (.refl W) R (res_val r))⟩
    · rename_i q hq
      split at h'
      rotate_left
      · cases h'
      rename_i hcq
      obtain ⟨rfl, rfl⟩ := rt_inj h'
      obtain ⟨a, ea, t, f, n, z⟩ := R.own i q hq
      refine ⟨_, ea, ?_⟩
      cases q with
      | lst ps =>
        obtain ⟨xs, e, r⟩ := t
        have hr : Rep X.K cl (W.add a (.lst xs)) (.lst ps) (.ref a) := by
          unfold Rep; exact ⟨a, xs, rfl, upd_same, RepL.mono (Wd.le_add f) _ _ r⟩
        obtain ⟨R1, l1⟩ := own_freeze R hq ea (.lst xs) rfl hr
        rw [upd_self e] at R1
        exact .inl (hok _ rfl _ _ H l1 R1 (res_val hr))
      | dic b kvs =>
        cases b
        · obtain ⟨l, e, r⟩ := t
          refine .inr ⟨a, _, rfl, e, True.intro, fun od => ?_⟩
          have hr : Rep X.K cl (W.add a (.frz od (.dK l))) (.dic false kvs) (.ref a) := by
            unfold Rep; exact ⟨a, od, l, rfl, upd_same, RepK.mono (Wd.le_add f) _ _ r⟩
          obtain ⟨R1, l1⟩ := own_freeze R hq ea _ rfl hr
          exact hok _ rfl _ _ _ l1 R1 (res_val hr)
        · obtain ⟨l, e, r⟩ := t
          refine .inr ⟨a, _, rfl, e, True.intro, fun od => ?_⟩
          have hr : Rep X.K cl (W.add a (.frz od (.dT l))) (.dic true kvs) (.ref a) := by
            unfold Rep; exact ⟨a, od, l, rfl, upd_same, RepT.mono (Wd.le_add f) _ _ r⟩
          obtain ⟨R1, l1⟩ := own_freeze R hq ea _ rfl hr
          exact hok _ rfl _ _ _ l1 R1 (res_val hr)
      | ins C fs => cases hcq
      | _ => exact t.elim
    · cases h'
  | _ => exact ff h
theorem sv_cst {v : PV} : SV (.cst v) := fun {cl X c k Wx F p} g h nd => by
  cases p with
  | Constant q j pos =>
    have fin : ∀ y : V, (∀ W, Rep X.K cl W v y) → PE X (.Constant q j pos) (tC y) → ∃ te, PE X (.Constant q j pos) te ∧ AsgN X c (.Constant q j pos) te ∧ JG X.K cl Wx te (evR (.cst v) F) (rRes X.K cl) := fun y hy hp => by
      refine ⟨tC y, hp, asg_of g hp rfl, ?_⟩
      intro W0 H0 W s σ H Q out s' R hh hok hx
      obtain ⟨rfl, rfl⟩ := rt_inj (show rt (v, false) s = _ from hh)
      exact hok _ rfl y W H (.refl W) R (res_val (hy W))
    have h' : cstB v q = true := h
    unfold cstB at h'
    split at h'
    · exact fin .non (fun W => by unfold Rep; rfl) pe_non
    · rename_i b d
      cases (show b = d by simpa using h')
      exact fin (.bl b) (fun W => by unfold Rep; rfl) pe_bl
    · rename_i i i2
      cases (show i = i2 by simpa using h')
      exact fin (.int i) (fun W => by unfold Rep; rfl) pe_int
    · rename_i x y
      cases (show y = _ by simpa using h')
      exact fin (.str _) (fun W => by unfold Rep; rfl) pe_str
    · cases h'
  | _ => exact ff h
theorem sv_glb {x : String} {v : PV} : SV (.glb x v) := fun {cl X c k Wx F p} g h nd => by
  cases p with
  | Name y pos =>
    obtain ⟨h1, h2⟩ := and_t h
    have e : y = (x : Str) := dec_t h1
    subst e
    obtain ⟨g1, g2, g3⟩ := g.gl h2
    obtain ⟨u, z, e1, e2, e3⟩ := nd
    have hp : PE X (.Name (x : Str) pos) (tC z) := pe_glob g1 e1 e2 g2
    refine ⟨tC z, hp, asg_of g hp rfl, ?_⟩
    intro W0 H0 W s σ H Q out s' R hh hok hx
    obtain ⟨rfl, rfl⟩ := rt_inj (show rt (v, false) s = _ from hh)
    exact hok _ rfl z W H (.refl W) R (res_val (e3 W))
  | _ => exact ff h
/-- two places, an operation that makes a value -/
theorem jg_bin {a b : XE} {ta tb : TE} {f : PV → PV → Option (PV × Bool)} (Ja : JG X.K cl Wx ta (fun s => plc a (evR a F s) s) (rPl X.K cl)) (Jb : JG X.K cl Wx tb (fun s => plc b (evR b F s) s) (rPl X.K cl)) :
    JG X.K cl Wx (tOp (r2 X.K cl f) ta tb) (fun s => bd (plc a (evR a F s) s) fun p s => bd (plc b (evR b F s) s) fun q s => op1 (s.look p) fun x => op1 (s.look q) fun y => op1 (f x y) fun r => rt r s) (rRes X.K cl) := by
  intro W0 H0 W s σ H Q out s' R h hok hx
  refine Ja.go R h hx (fun p s1 h1 x W1 H1 l1 R1 rp => ?_)
  refine Jb.go R1 h1 (hx_le l1 hx) (fun q s2 h2 y W2 H2 l2 R2 rq => ?_)
  obtain ⟨xv, ex, h3⟩ := op1_cases h2
  obtain ⟨yv, ey, h4⟩ := op1_cases h3
  obtain ⟨r, er, h5⟩ := op1_cases h4
  obtain ⟨rfl, rfl⟩ := rt_inj h5
  exact ⟨W2, xv, yv, r, R2.rm.sub, look_ok R2 (PlR.mono l2 rp) ex, look_ok R2 rq ey, er, fun v H' n => hok_new rfl hok (l1.trans l2) R2 n⟩
theorem sv_bin {op : Bop} {a b : XE} (Sa : SV a) (Sb : SV b) : SV (.bin op a b) := fun {cl X c k Wx F p} g h nd => by
  cases p with
  | BinOp pa o pb pos =>
    obtain ⟨h1, h2⟩ := and_t h
    obtain ⟨h2, h3⟩ := and_t h2
    cases (dec_t h1)
    obtain ⟨ta, pa, Ja⟩ := Sa.jp g h2 nd.1
    obtain ⟨tb, pb, Jb⟩ := Sb.jp g h3 nd.2
    have hp := pe_op (pos := pos) (bin_ok (cl := cl) (op := op)) pa pb
    exact ⟨_, hp, asg_of g hp rfl, jg_bin Ja Jb⟩
  | _ => exact ff h
theorem sv_neg {a : XE} (Sa : SV a) : SV (.neg a) := fun {cl X c k Wx F p} g h nd => by
  cases p with
  | UnaryOp o pa pos =>
    cases o with
    | USub =>
      obtain ⟨ta, pa, Ja⟩ := Sa.je g h nd
      have hp := pe_un (pos := pos) un_neg pa
      refine ⟨_, hp, asg_of g hp rfl, ?_⟩
      intro W0 H0 W s σ H Q out s' R hh hok hx
      refine Ja.go R hh hx (fun v s1 h1 x W1 H1 l1 R1 rp => ?_)
      cases v with
      | int i =>
        obtain ⟨rfl, rfl⟩ := rt_inj (show rt (PV.int (-i), false) s1 = _ from h1)
        have rp' : Rep X.K cl W1 (.int _) x := rp
        unfold Rep at rp'
        exact ⟨_, rp', hok _ rfl _ W1 H1 l1 R1 (res_val (by unfold Rep; rfl))⟩
      | _ => cases h1
    | _ => exact ff h
  | _ => exact ff h
theorem sv_not {a : XE} (Sa : SV a) : SV (.not a) := fun {cl X c k Wx F p} g h nd => by
  cases p with
  | UnaryOp o pa pos =>
    cases o with
    | Not =>
      obtain ⟨ta, pa, Ja⟩ := Sa.jp g h nd
      have hp := pe_notP (pos := pos) (r := rTru X.K cl) tru_okP pa
      refine ⟨_, hp, asg_of g hp rfl, ?_⟩
      intro W0 H0 W s σ H Q out s' R hh hok hx
      have hh : bd (tst a (evR a F s) s) (fun b s => rt (.bl (!b), false) s) = some (out, s') := hh
      have e : bd (tst a (evR a F s) s) (fun b s => rt (PV.bl (!b), false) s) = bd (plc a (evR a F s) s) fun p s => op1 (s.look p) fun v => op1 (truthy v) fun b => rt (PV.bl (!b), false) s := by
        unfold tst
        generalize plc a (evR a F s) s = m
        cases m with
        | none => rfl
        | some q =>
          obtain ⟨r, s1⟩ := q
          cases r with
          | exc _ _ => rfl
          | ok pl =>
            show bd (op1 (s1.look pl) _) _ = op1 (s1.look pl) _
            cases s1.look pl with
            | none => rfl
            | some v =>
              show bd (op1 (truthy v) _) _ = op1 (truthy v) _
              cases truthy v <;> rfl
      rw [e] at hh
      refine Ja.go R hh hx (fun pl s1 h1 x W1 H1 l1 R1 rp => ?_)
      obtain ⟨v, ev, h2⟩ := op1_cases h1
      obtain ⟨b, eb, h3⟩ := op1_cases h2
      obtain ⟨rfl, rfl⟩ := rt_inj h3
      exact ⟨W1, v, b, R1.rm.sub, look_ok R1 rp ev, eb, hok _ rfl _ W1 H1 l1 R1 (res_val (by unfold Rep; rfl))⟩
    | _ => exact ff h
  | _ => exact ff h
theorem se_not {a : XE} (Sa : SE a) : SE (.not a) := ⟨sv_not Sa.pe, fun {cl X c k Wx F p} g h ht nd => by
  cases p with
  | UnaryOp o pa pos =>
    cases o with
    | Not =>
      obtain ⟨h1, h2⟩ := and_t (show (tstB a pa && chkE a c true pa) = true from h)
      obtain ⟨ta, pa, _, Ja⟩ := Sa.pt g h2 h1 nd
      refine ⟨_, pt_not (pos := pos) pa, fun q => ff q, ?_⟩
      intro W0 H0 W s σ H Q out s' R hh hok hx
      have hh : bd (bd (bd (tst a (evR a F s) s) (fun b s => rt (PV.bl (!b), false) s)) (fun a s => rt (Pl.v a.1) s)) (fun p s => op1 (s.look p) fun v => op1 (truthy v) fun b => rt b s) = some (out, s') := hh
      have e : bd (bd (bd (tst a (evR a F s) s) (fun b s => rt (PV.bl (!b), false) s)) (fun a s => rt (Pl.v a.1) s)) (fun p s => op1 (s.look p) fun v => op1 (truthy v) fun b => rt b s) = bd (tst a (evR a F s) s) fun b s => rt (!b) s := by
        generalize tst a (evR a F s) s = m
        cases m with
        | none => rfl
        | some q => obtain ⟨r, s1⟩ := q; cases r <;> rfl
      rw [e] at hh
      refine Ja.go R hh hx (fun b s1 h1 x W1 H1 l1 R1 rp => ?_)
      obtain ⟨rfl, rfl⟩ := rt_inj h1
      cases (show x = b from rp)
      exact hok _ rfl _ W1 H1 l1 R1 rfl
    | _ => exact ff h
  | _ => exact ff h⟩
/-- a test by the value's own test -/
theorem tst_bl {e : XE} {m : Rs (PV × Bool)} {s : Sg} (hv : ∀ i, e ≠ .var i) {f : Sg → Rs Bool} (h : m = bd (f s) fun b s => rt (.bl b, false) s) : tst e m s = f s := by
  unfold tst
  rw [plc_nv hv, h]
  generalize f s = m
  cases m with
  | none => rfl
  | some q => obtain ⟨r, s1⟩ := q; cases r <;> rfl
theorem bd_assoc {α β γ : Type} {m : Rs α} {f : α → Sg → Rs β} {h : β → Sg → Rs γ} : bd (bd m f) h = bd m fun a s => bd (f a s) h := by
  cases m with
  | none => rfl
  | some q => obtain ⟨r, s1⟩ := q; cases r <;> rfl
theorem bd_op1 {α β γ : Type} {m : Option α} {f : α → Rs β} {h : β → Sg → Rs γ} : bd (op1 m f) h = op1 m fun a => bd (f a) h := by
  cases m <;> rfl
def cmpS' (F : Fn) (op : Cop) (a b : XE) (s : Sg) : Rs Bool := bd (plc a (evR a F s) s) fun p s => bd (plc b (evR b F s) s) fun q s => op1 (s.look p) fun x => op1 (s.look q) fun y => op1 (cmpP op x y) fun r => rt r s
theorem jg_cmp {op : Cop} {a b : XE} {ta tb : TE} (Ja : JG X.K cl Wx ta (fun s => plc a (evR a F s) s) (rPl X.K cl)) (Jb : JG X.K cl Wx tb (fun s => plc b (evR b F s) s) (rPl X.K cl)) :
    JG X.K cl Wx (fun σ H Q => tOp (r2b X.K cl (cmpP op)) ta tb σ H fun v H' => ∃ r, v = .bl r ∧ Q r H') (cmpS' F op a b) rBl := by
  intro W0 H0 W s σ H Q out s' R h hok hx
  refine Ja.go R h hx (fun p s1 h1 x W1 H1 l1 R1 rp => ?_)
  refine Jb.go R1 h1 (hx_le l1 hx) (fun q s2 h2 y W2 H2 l2 R2 rq => ?_)
  obtain ⟨xv, ex, h3⟩ := op1_cases h2
  obtain ⟨yv, ey, h4⟩ := op1_cases h3
  obtain ⟨r, er, h5⟩ := op1_cases h4
  obtain ⟨rfl, rfl⟩ := rt_inj h5
  exact ⟨W2, xv, yv, r, R2.rm.sub, look_ok R2 (PlR.mono l2 rp) ex, look_ok R2 rq ey, er, r, rfl, hok _ rfl r W2 H2 (l1.trans l2) R2 rfl⟩
theorem jg_cmpV {op : Cop} {a b : XE} {ta tb : TE} (Ja : JG X.K cl Wx ta (fun s => plc a (evR a F s) s) (rPl X.K cl)) (Jb : JG X.K cl Wx tb (fun s => plc b (evR b F s) s) (rPl X.K cl)) :
    JG X.K cl Wx (tOp (r2b X.K cl (cmpP op)) ta tb) (evR (.cmp op a b) F) (rRes X.K cl) := by
  intro W0 H0 W s σ H Q out s' R h hok hx
  refine Ja.go R h hx (fun p s1 h1 x W1 H1 l1 R1 rp => ?_)
  refine Jb.go R1 h1 (hx_le l1 hx) (fun q s2 h2 y W2 H2 l2 R2 rq => ?_)
  obtain ⟨xv, ex, h3⟩ := op1_cases h2
  obtain ⟨yv, ey, h4⟩ := op1_cases h3
  obtain ⟨r, er, h5⟩ := op1_cases h4
  obtain ⟨rfl, rfl⟩ := rt_inj h5
  exact ⟨W2, xv, yv, r, R2.rm.sub, look_ok R2 (PlR.mono l2 rp) ex, look_ok R2 rq ey, er, hok _ rfl _ W2 H2 (l1.trans l2) R2 (res_val (by unfold Rep; rfl))⟩
theorem se_cmp {op : Cop} {a b : XE} (Sa : SV a) (Sb : SV b) : SE (.cmp op a b) := ⟨fun {cl X c k Wx F p} g h nd => by
  cases p with
  | Compare pa os ps pos =>
    cases os with
    | cons o os =>
      cases os with
      | nil =>
        cases ps with
        | cons pb ps =>
          cases ps with
          | nil =>
            obtain ⟨h1, h2⟩ := and_t h
            obtain ⟨h2, h3⟩ := and_t h2
            obtain ⟨h3, h4⟩ := and_t h3
            cases (dec_t h1)
            obtain ⟨ta, pa, Ja⟩ := Sa.jp g h3 nd.1
            obtain ⟨tb, pb, Jb⟩ := Sb.jp g h4 nd.2
            have hp := pe_cmpR (pos := pos) (cmp_ok (cl := cl) (op := op) g.hu) pa pb (no_mark h2)
            exact ⟨_, hp, asg_of g hp rfl, jg_cmpV Ja Jb⟩
          | cons _ _ => exact ff h
        | nil => exact ff h
      | cons _ _ => exact ff h
    | nil => exact ff h
  | _ => exact ff h, fun {cl X c k Wx F p} g h ht nd => by
  cases p with
  | Compare pa os ps pos =>
    cases os with
    | cons o os =>
      cases os with
      | nil =>
        cases ps with
        | cons pb ps =>
          cases ps with
          | nil =>
            obtain ⟨h1, h2⟩ := and_t h
            obtain ⟨h2, h3⟩ := and_t h2
            obtain ⟨h3, h4⟩ := and_t h3
            cases (dec_t h1)
            obtain ⟨ta, pa, Ja⟩ := Sa.jp g h3 nd.1
            obtain ⟨tb, pb, Jb⟩ := Sb.jp g h4 nd.2
            refine ⟨_, pt_cmpR (pos := pos) (cmp_ok (cl := cl) (op := op) g.hu) pa pb (no_mark h2), fun q => ff q, ?_⟩
            have e : (fun s => tst (.cmp op a b) (evR (.cmp op a b) F s) s) = cmpS' F op a b := by
              funext s
              refine tst_bl (by intro i q; cases q) ?_
              show (bd (plc a (evR a F s) s) fun p s => bd (plc b (evR b F s) s) fun q s => op1 (s.look p) fun x => op1 (s.look q) fun y => op1 (cmpP op x y) fun r => rt (PV.bl r, false) s) = bd (bd _ _) _
              rw [bd_assoc]
              congr 1; funext p s1
              rw [bd_assoc]
              congr 1; funext q s2
              rw [bd_op1]; congr 1; funext x
              rw [bd_op1]; congr 1; funext y
              rw [bd_op1]; congr 1
            rw [e]
            exact jg_cmp Ja Jb
          | cons _ _ => exact ff h
        | nil => exact ff h
      | cons _ _ => exact ff h
    | nil => exact ff h
  | _ => exact ff h⟩
def cmp2S (F : Fn) (op op' : Cop) (a b d : XE) (s : Sg) : Rs Bool := bd (plc a (evR a F s) s) fun p s => bd (plc b (evR b F s) s) fun q s => op1 (s.look p) fun x => op1 (s.look q) fun y => op1 (cmpP op x y) fun r => match r with
  | false => rt false s
  | true => bd (plc d (evR d F s) s) fun z s => op1 (s.look q) fun y => op1 (s.look z) fun z => op1 (cmpP op' y z) fun r => rt r s
theorem jg_cmp2 {op op' : Cop} {a b d : XE} {ta tb td : TE} (Ja : JG X.K cl Wx ta (fun s => plc a (evR a F s) s) (rPl X.K cl)) (Jb : JG X.K cl Wx tb (fun s => plc b (evR b F s) s) (rPl X.K cl)) (Jd : JG X.K cl Wx td (fun s => plc d (evR d F s) s) (rPl X.K cl)) :
    JG X.K cl Wx (fun σ H Q => tChain (r2b X.K cl (cmpP op)) (r2b X.K cl (cmpP op')) ta tb td σ H fun v H' => ∃ r, v = .bl r ∧ Q r H') (cmp2S F op op' a b d) rBl := by
  intro W0 H0 W s σ H Q out s' R h hok hx
  refine Ja.go R h hx (fun p s1 h1 x W1 H1 l1 R1 rp => ?_)
  refine Jb.go R1 h1 (hx_le l1 hx) (fun q s2 h2 y W2 H2 l2 R2 rq => ?_)
  obtain ⟨xv, ex, h3⟩ := op1_cases h2
  obtain ⟨yv, ey, h4⟩ := op1_cases h3
  obtain ⟨r, er, h5⟩ := op1_cases h4
  refine ⟨W2, xv, yv, r, R2.rm.sub, look_ok R2 (PlR.mono l2 rp) ex, look_ok R2 rq ey, er, r, rfl, ?_⟩
  cases r with
  | false =>
    obtain ⟨rfl, rfl⟩ := rt_inj (show rt false s2 = _ from h5)
    exact ⟨false, rfl, hok _ rfl false W2 H2 (l1.trans l2) R2 rfl⟩
  | true =>
    refine Jd.go R2 h5 (hx_le (l1.trans l2) hx) (fun z s3 h6 w W3 H3 l3 R3 rz => ?_)
    obtain ⟨yv', ey', h7⟩ := op1_cases h6
    obtain ⟨zv, ez, h8⟩ := op1_cases h7
    obtain ⟨r, er', h9⟩ := op1_cases h8
    obtain ⟨rfl, rfl⟩ := rt_inj h9
    exact ⟨W3, yv', zv, r, R3.rm.sub, look_ok R3 (PlR.mono l3 rq) ey', look_ok R3 rz ez, er', r, rfl, hok _ rfl r W3 H3 ((l1.trans l2).trans l3) R3 rfl⟩
theorem jg_cmp2V {op op' : Cop} {a b d : XE} {ta tb td : TE} (Ja : JG X.K cl Wx ta (fun s => plc a (evR a F s) s) (rPl X.K cl)) (Jb : JG X.K cl Wx tb (fun s => plc b (evR b F s) s) (rPl X.K cl)) (Jd : JG X.K cl Wx td (fun s => plc d (evR d F s) s) (rPl X.K cl)) :
    JG X.K cl Wx (tChain (r2b X.K cl (cmpP op)) (r2b X.K cl (cmpP op')) ta tb td) (evR (.cmp2 op op' a b d) F) (rRes X.K cl) := by
  intro W0 H0 W s σ H Q out s' R h hok hx
  refine Ja.go R h hx (fun p s1 h1 x W1 H1 l1 R1 rp => ?_)
  refine Jb.go R1 h1 (hx_le l1 hx) (fun q s2 h2 y W2 H2 l2 R2 rq => ?_)
  obtain ⟨xv, ex, h3⟩ := op1_cases h2
  obtain ⟨yv, ey, h4⟩ := op1_cases h3
  obtain ⟨r, er, h5⟩ := op1_cases h4
  refine ⟨W2, xv, yv, r, R2.rm.sub, look_ok R2 (PlR.mono l2 rp) ex, look_ok R2 rq ey, er, r, rfl, ?_⟩
  cases r with
  | false =>
    obtain ⟨rfl, rfl⟩ := rt_inj (show rt (PV.bl false, false) s2 = _ from h5)
    exact hok _ rfl _ W2 H2 (l1.trans l2) R2 (res_val (by unfold Rep; rfl))
  | true =>
    refine Jd.go R2 h5 (hx_le (l1.trans l2) hx) (fun z s3 h6 w W3 H3 l3 R3 rz => ?_)
    obtain ⟨yv', ey', h7⟩ := op1_cases h6
    obtain ⟨zv, ez, h8⟩ := op1_cases h7
    obtain ⟨r, er', h9⟩ := op1_cases h8
    obtain ⟨rfl, rfl⟩ := rt_inj h9
    exact ⟨W3, yv', zv, r, R3.rm.sub, look_ok R3 (PlR.mono l3 rq) ey', look_ok R3 rz ez, er', hok _ rfl _ W3 H3 ((l1.trans l2).trans l3) R3 (res_val (by unfold Rep; rfl))⟩
end
end Lk

namespace Lk
open PySem L2
section
variable {cl : String → Option Addr} {X : Cx} {c : Kx} {k : Nat} {Wx : WX} {F : Fn} {p : Expr}
theorem se_cmp2 {op op' : Cop} {a b d : XE} (Sa : SV a) (Sb : SV b) (Sd : SV d) : SE (.cmp2 op op' a b d) := ⟨fun {cl X c k Wx F p} g h nd => by
  cases p with
  | Compare pa os ps pos =>
    match os, ps, h with
    | [o, o'], [pb, pd], h =>
      obtain ⟨h1, h2⟩ := and_t h
      obtain ⟨h2, h3⟩ := and_t h2
      obtain ⟨h3, h4⟩ := and_t h3
      obtain ⟨h4, h5⟩ := and_t h4
      obtain ⟨h5, h6⟩ := and_t h5
      cases (dec_t h1)
      cases (dec_t h2)
      obtain ⟨ta, pa, Ja⟩ := Sa.jp g h4 nd.1
      obtain ⟨tb, pb, Jb⟩ := Sb.jp g h5 nd.2.1
      obtain ⟨td, pd, Jd⟩ := Sd.jp g h6 nd.2.2
      have hp := pe_chain (pos := pos) (cmp_ok (cl := cl) (op := op) g.hu) (cmp_ok (cl := cl) (op := op') g.hu) pa pb pd (no_mark h3)
      exact ⟨_, hp, asg_of g hp rfl, jg_cmp2V Ja Jb Jd⟩
    | [], _, h => exact ff h
    | [_], _, h => exact ff h
    | _ :: _ :: _ :: _, _, h => exact ff h
    | [_, _], [], h => exact ff h
    | [_, _], [_], h => exact ff h
    | [_, _], _ :: _ :: _ :: _, h => exact ff h
  | _ => exact ff h, fun {cl X c k Wx F p} g h ht nd => by
  cases p with
  | Compare pa os ps pos =>
    match os, ps, h with
    | [o, o'], [pb, pd], h =>
      obtain ⟨h1, h2⟩ := and_t h
      obtain ⟨h2, h3⟩ := and_t h2
      obtain ⟨h3, h4⟩ := and_t h3
      obtain ⟨h4, h5⟩ := and_t h4
      obtain ⟨h5, h6⟩ := and_t h5
      cases (dec_t h1)
      cases (dec_t h2)
      obtain ⟨ta, pa, Ja⟩ := Sa.jp g h4 nd.1
      obtain ⟨tb, pb, Jb⟩ := Sb.jp g h5 nd.2.1
      obtain ⟨td, pd, Jd⟩ := Sd.jp g h6 nd.2.2
      refine ⟨_, pt_chain (pos := pos) (cmp_ok (cl := cl) (op := op) g.hu) (cmp_ok (cl := cl) (op := op') g.hu) pa pb pd (no_mark h3), fun q => ff q, ?_⟩
      have e : (fun s => tst (.cmp2 op op' a b d) (evR (.cmp2 op op' a b d) F s) s) = cmp2S F op op' a b d := by
        funext s
        refine tst_bl (by intro i q; cases q) ?_
        unfold cmp2S
        rw [bd_assoc]
        show (bd (plc a (evR a F s) s) fun p s => _) = _
        congr 1; funext p s1
        rw [bd_assoc]
        congr 1; funext q s2
        rw [bd_op1]; congr 1; funext x
        rw [bd_op1]; congr 1; funext y
        rw [bd_op1]; congr 1; funext r
        cases r with
        | false => rfl
        | true =>
          show _ = bd (bd _ _) _
          rw [bd_assoc]
          show (bd (plc d (evR d F s2) s2) fun z s => _) = _
          congr 1; funext z s3
          rw [bd_op1]; congr 1; funext y'
          rw [bd_op1]; congr 1; funext z'
          rw [bd_op1]; congr 1
      rw [e]
      exact jg_cmp2 Ja Jb Jd
    | [], _, h => exact ff h
    | [_], _, h => exact ff h
    | _ :: _ :: _ :: _, _, h => exact ff h
    | [_, _], [], h => exact ff h
    | [_, _], [_], h => exact ff h
    | [_, _], _ :: _ :: _ :: _, h => exact ff h
  | _ => exact ff h⟩
theorem tru_nref {v : PV} {t : Bool} (h : truthy v = some t) : ∀ k, v ≠ .ref k := by
  intro k e; subst e; cases h
theorem jg_and {a b : XE} {ta tb : TE} (Ja : JG X.K cl Wx ta (fun s => fz (evR a F s)) (rVal X.K cl)) (Jb : JG X.K cl Wx tb (fun s => fz (evR b F s)) (rVal X.K cl)) :
    JG X.K cl Wx (tAndP X.K cl ta tb) (evR (.and a b) F) (rRes X.K cl) := by
  intro W0 H0 W s σ H Q out s' R h hok hx
  refine Ja.go R h hx (fun v s1 h1 x W1 H1 l1 R1 rp => ?_)
  obtain ⟨t, et, h2⟩ := op1_cases h1
  refine ⟨t, ⟨W1, v, t, R1.rm.sub, Rep.rh R1.rm.sub rp (tru_nref et), et, rfl, rfl⟩, ?_⟩
  cases t with
  | true =>
    refine Jb.go R1 h2 (hx_le l1 hx) (fun q s2 h3 y W2 H2 l2 R2 rq => ?_)
    obtain ⟨rfl, rfl⟩ := rt_inj h3
    exact hok _ rfl _ W2 H2 (l1.trans l2) R2 (res_val rq)
  | false =>
    obtain ⟨rfl, rfl⟩ := rt_inj (show rt (v, false) s1 = _ from h2)
    exact hok _ rfl _ W1 H1 l1 R1 (res_val rp)
theorem jg_or {a b : XE} {ta tb : TE} (Ja : JG X.K cl Wx ta (fun s => fz (evR a F s)) (rVal X.K cl)) (Jb : JG X.K cl Wx tb (fun s => fz (evR b F s)) (rVal X.K cl)) :
    JG X.K cl Wx (tOrP X.K cl ta tb) (evR (.or a b) F) (rRes X.K cl) := by
  intro W0 H0 W s σ H Q out s' R h hok hx
  refine Ja.go R h hx (fun v s1 h1 x W1 H1 l1 R1 rp => ?_)
  obtain ⟨t, et, h2⟩ := op1_cases h1
  refine ⟨t, ⟨W1, v, t, R1.rm.sub, Rep.rh R1.rm.sub rp (tru_nref et), et, rfl, rfl⟩, ?_⟩
  cases t with
  | false =>
    refine Jb.go R1 h2 (hx_le l1 hx) (fun q s2 h3 y W2 H2 l2 R2 rq => ?_)
    obtain ⟨rfl, rfl⟩ := rt_inj h3
    exact hok _ rfl _ W2 H2 (l1.trans l2) R2 (res_val rq)
  | true =>
    obtain ⟨rfl, rfl⟩ := rt_inj (show rt (v, false) s1 = _ from h2)
    exact hok _ rfl _ W1 H1 l1 R1 (res_val rp)
theorem sv_and {a b : XE} (Sa : SV a) (Sb : SV b) : SV (.and a b) := fun {cl X c k Wx F p} g h nd => by
  cases p with
  | BoolOp o vs pos =>
    match o, vs, h with
    | .And, pa :: pb :: r, h =>
      obtain ⟨h1, h2⟩ := and_t h
      obtain ⟨ta, pa, Ja⟩ := Sa.je g h1 nd.1
      cases r with
      | nil =>
        obtain ⟨tb, pb, Jb⟩ := Sb.je g h2 nd.2
        have hp := pe_andP (cl := cl) pa (pe_one (op := .And) (pos := pos) pb)
        exact ⟨_, hp, asg_of g hp rfl, jg_and Ja Jb⟩
      | cons q r =>
        obtain ⟨h2, h3⟩ := and_t h2
        obtain ⟨tb, pb, Jb⟩ := Sb.je g h3 nd.2
        have hp := pe_andP (cl := cl) pa pb
        exact ⟨_, hp, asg_of g hp rfl, jg_and Ja Jb⟩
    | .And, [], h => exact ff h
    | .And, [_], h => exact ff h
    | .Or, _, h => exact ff h
  | _ => exact ff h
theorem sv_or {a b : XE} (Sa : SV a) (Sb : SV b) : SV (.or a b) := fun {cl X c k Wx F p} g h nd => by
  cases p with
  | BoolOp o vs pos =>
    match o, vs, h with
    | .Or, pa :: pb :: r, h =>
      obtain ⟨h1, h2⟩ := and_t h
      obtain ⟨ta, pa, Ja⟩ := Sa.je g h1 nd.1
      cases r with
      | nil =>
        obtain ⟨tb, pb, Jb⟩ := Sb.je g h2 nd.2
        have hp := pe_orP (cl := cl) pa (pe_one (op := .Or) (pos := pos) pb)
        exact ⟨_, hp, asg_of g hp rfl, jg_or Ja Jb⟩
      | cons q r =>
        obtain ⟨h2, h3⟩ := and_t h2
        obtain ⟨tb, pb, Jb⟩ := Sb.je g h3 nd.2
        have hp := pe_orP (cl := cl) pa pb
        exact ⟨_, hp, asg_of g hp rfl, jg_or Ja Jb⟩
    | .Or, [], h => exact ff h
    | .Or, [_], h => exact ff h
    | .And, _, h => exact ff h
  | _ => exact ff h
/-! ### and, or in a test -/
def tandS (F : Fn) (a b : XE) (s : Sg) : Rs Bool := bd (tst a (evR a F s) s) fun t s => match t with
  | true => tst b (evR b F s) s
  | false => rt false s
def torS (F : Fn) (a b : XE) (s : Sg) : Rs Bool := bd (tst a (evR a F s) s) fun t s => match t with
  | true => rt true s
  | false => tst b (evR b F s) s
theorem tand_eq {a b : XE} : (fun s => tst (.tand a b) (evR (.tand a b) F s) s) = tandS F a b := by
  funext s
  refine tst_bl (by intro i q; cases q) ?_
  unfold tandS
  rw [bd_assoc]
  show (bd (tst a (evR a F s) s) fun t s => _) = _
  congr 1; funext t s1
  cases t <;> rfl
theorem tor_eq {a b : XE} : (fun s => tst (.tor a b) (evR (.tor a b) F s) s) = torS F a b := by
  funext s
  refine tst_bl (by intro i q; cases q) ?_
  unfold torS
  rw [bd_assoc]
  show (bd (tst a (evR a F s) s) fun t s => _) = _
  congr 1; funext t s1
  cases t <;> rfl
theorem jg_tand {a b : XE} {ta tb : TT} (Ja : JG X.K cl Wx ta (fun s => tst a (evR a F s) s) rBl) (Jb : JG X.K cl Wx tb (fun s => tst b (evR b F s) s) rBl) : JG X.K cl Wx (tAnd ta tb) (tandS F a b) rBl := by
  intro W0 H0 W s σ H Q out s' R h hok hx
  refine Ja.go R h hx (fun t s1 h1 x W1 H1 l1 R1 rp => ?_)
  cases (show x = t from rp)
  cases t with
  | true =>
    show tb σ H1 Q
    exact Jb W0 H0 W1 s1 σ H1 Q out s' R1 h1 (fun a e v W' H' l => hok a e v W' H' (l1.trans l)) (hx_le l1 hx)
  | false =>
    obtain ⟨rfl, rfl⟩ := rt_inj (show rt false s1 = _ from h1)
    exact hok _ rfl _ W1 H1 l1 R1 rfl
theorem jg_tor {a b : XE} {ta tb : TT} (Ja : JG X.K cl Wx ta (fun s => tst a (evR a F s) s) rBl) (Jb : JG X.K cl Wx tb (fun s => tst b (evR b F s) s) rBl) : JG X.K cl Wx (tOr ta tb) (torS F a b) rBl := by
  intro W0 H0 W s σ H Q out s' R h hok hx
  refine Ja.go R h hx (fun t s1 h1 x W1 H1 l1 R1 rp => ?_)
  cases (show x = t from rp)
  cases t with
  | false =>
    show tb σ H1 Q
    exact Jb W0 H0 W1 s1 σ H1 Q out s' R1 h1 (fun a e v W' H' l => hok a e v W' H' (l1.trans l)) (hx_le l1 hx)
  | true =>
    obtain ⟨rfl, rfl⟩ := rt_inj (show rt true s1 = _ from h1)
    exact hok _ rfl _ W1 H1 l1 R1 rfl
theorem pt_of_pw {tt : TT} (h : PW X p tt) : PT X p tt := ⟨fun pins s σ H Q I q => h.run _ pins s σ H Q I q⟩
theorem se_tand {a b : XE} (Sa : SE a) (Sb : SE b) : SE (.tand a b) := ⟨fun {cl X c k Wx F p} g h nd => by
  cases p with
  | BoolOp o vs pos =>
    match o, vs, h with
    | .And, pa :: pb :: r, h => exact ff h
    | .And, [], h => exact ff h
    | .And, [_], h => exact ff h
    | .Or, _, h => exact ff h
  | _ => exact ff h, fun {cl X c k Wx F p} g h ht nd => by
  rw [tand_eq]
  cases p with
  | BoolOp o vs pos =>
    match o, vs, h with
    | .And, pa :: pb :: r, h =>
      obtain ⟨h0, h⟩ := and_t h
      obtain ⟨h1, h2⟩ := and_t h
      obtain ⟨ta, pa, _, Ja⟩ := Sa.pt g h1 h0 nd.1
      cases r with
      | nil =>
        obtain ⟨h2, h3⟩ := and_t h2
        obtain ⟨tb, pb, _, Jb⟩ := Sb.pt g h3 h2 nd.2
        have hp := pw_and pa (pw_and1 (pos := pos) pb)
        exact ⟨_, pt_of_pw hp, fun _ => hp, jg_tand Ja Jb⟩
      | cons q r =>
        obtain ⟨h2, h3⟩ := and_t h2
        obtain ⟨tb, pb', pbw, Jb⟩ := Sb.pt g h3 h2 nd.2
        have hp := pw_and pa (pbw rfl)
        exact ⟨_, pt_of_pw hp, fun _ => hp, jg_tand Ja Jb⟩
    | .And, [], h => exact ff h
    | .And, [_], h => exact ff h
    | .Or, _, h => exact ff h
  | _ => exact ff h⟩
theorem se_tor {a b : XE} (Sa : SE a) (Sb : SE b) : SE (.tor a b) := ⟨fun {cl X c k Wx F p} g h nd => by
  cases p with
  | BoolOp o vs pos =>
    match o, vs, h with
    | .Or, pa :: pb :: r, h => exact ff h
    | .Or, [], h => exact ff h
    | .Or, [_], h => exact ff h
    | .And, _, h => exact ff h
  | _ => exact ff h, fun {cl X c k Wx F p} g h ht nd => by
  rw [tor_eq]
  cases p with
  | BoolOp o vs pos =>
    match o, vs, h with
    | .Or, pa :: pb :: r, h =>
      obtain ⟨h0, h⟩ := and_t h
      obtain ⟨h1, h2⟩ := and_t h
      obtain ⟨ta, pa, _, Ja⟩ := Sa.pt g h1 h0 nd.1
      cases r with
      | nil =>
        obtain ⟨h2, h3⟩ := and_t h2
        obtain ⟨tb, pb, _, Jb⟩ := Sb.pt g h3 h2 nd.2
        have hp := pw_or pa (pw_or1 (pos := pos) pb)
        exact ⟨_, pt_of_pw hp, fun _ => hp, jg_tor Ja Jb⟩
      | cons q r =>
        obtain ⟨h2, h3⟩ := and_t h2
        obtain ⟨tb, pb', pbw, Jb⟩ := Sb.pt g h3 h2 nd.2
        have hp := pw_or pa (pbw rfl)
        exact ⟨_, pt_of_pw hp, fun _ => hp, jg_tor Ja Jb⟩
    | .Or, [], h => exact ff h
    | .Or, [_], h => exact ff h
    | .And, _, h => exact ff h
  | _ => exact ff h⟩
theorem sv_ite {d a b : XE} (Sd : SE d) (Sa : SV a) (Sb : SV b) : SV (.ite d a b) := fun {cl X c k Wx F p} g h nd => by
  cases p with
  | IfExp pd pa pb pos =>
    obtain ⟨h0, h⟩ := and_t h
    obtain ⟨h1, h⟩ := and_t h
    obtain ⟨h2, h3⟩ := and_t h
    obtain ⟨td, pd, _, Jd⟩ := Sd.pt g h1 h0 nd.1
    obtain ⟨ta, pa, Ja⟩ := Sa.je g h2 nd.2.1
    obtain ⟨tb, pb, Jb⟩ := Sb.je g h3 nd.2.2
    have hp := pe_ifExp (pos := pos) pd pa pb
    refine ⟨_, hp, asg_of g hp rfl, ?_⟩
    intro W0 H0 W s σ H Q out s' R h hok hx
    refine Jd.go R h hx (fun t s1 h1 x W1 H1 l1 R1 rp => ?_)
    cases (show x = t from rp)
    cases t with
    | true =>
      show ta σ H1 Q
      refine Ja.go R1 h1 (hx_le l1 hx) (fun q s2 h3 y W2 H2 l2 R2 rq => ?_)
      obtain ⟨rfl, rfl⟩ := rt_inj h3
      exact hok _ rfl _ W2 H2 (l1.trans l2) R2 (res_val rq)
    | false =>
      show tb σ H1 Q
      refine Jb.go R1 h1 (hx_le l1 hx) (fun q s2 h3 y W2 H2 l2 R2 rq => ?_)
      obtain ⟨rfl, rfl⟩ := rt_inj h3
      exact hok _ rfl _ W2 H2 (l1.trans l2) R2 (res_val rq)
  | _ => exact ff h
end
/-! ### several -/
def SA (es : XEs) : Prop := ∀ {cl : String → Option Addr} {X : Cx} {c : Kx} {k : Nat} {Wx : WX} {F : Fn} {ps : List Expr}, Gd cl X c k Wx F → noStL ps = true → chkA es c ps = true → NdA (gv cl X) k es →
  (∃ t, PA X ps t ∧ JG X.K cl Wx t (evA es F) (rLs X.K cl)) ∧ ∃ t, PA X ps t ∧ JG X.K cl Wx t (evL es F) (rPls X.K cl)
theorem sa_nil : SA .nil := fun {cl X c k Wx F ps} g hs h nd => by
  cases ps with
  | nil =>
    refine ⟨⟨_, pa_nil, ?_⟩, ⟨_, pa_nil, ?_⟩⟩
    · intro W0 H0 W s σ H Q out s' R h hok hx
      obtain ⟨rfl, rfl⟩ := rt_inj (show rt [] s = _ from h)
      exact hok _ rfl [] W H (.refl W) R (by show RepL X.K cl W [] []; unfold RepL; rfl)
    · intro W0 H0 W s σ H Q out s' R h hok hx
      obtain ⟨rfl, rfl⟩ := rt_inj (show rt [] s = _ from h)
      exact hok _ rfl [] W H (.refl W) R True.intro
  | cons _ _ => exact ff h
theorem sa_cons {e : XE} {r : XEs} (Se : SV e) (Sr : SA r) : SA (.cons e r) := fun {cl X c k Wx F ps} g hs h nd => by
  cases ps with
  | nil => exact ff h
  | cons p q =>
    obtain ⟨h1, h2⟩ := and_t h
    have hs' : noSt p = true ∧ noStL q = true := by
      unfold noStL at hs ⊢
      simpa using hs
    obtain ⟨⟨t1, p1, J1⟩, ⟨t2, p2, J2⟩⟩ := Sr g hs'.2 h2 nd.2
    refine ⟨?_, ?_⟩
    · obtain ⟨te, pe, Je⟩ := Se.je g h1 nd.1
      refine ⟨_, pa_cons pe p1 (star_cons hs'.1), ?_⟩
      intro W0 H0 W s σ H Q out s' R h hok hx
      refine Je.go R h hx (fun v s1 h1 x W1 H1 l1 R1 rp => ?_)
      refine J1.go R1 h1 (hx_le l1 hx) (fun vs s2 h2 xs W2 H2 l2 R2 rq => ?_)
      obtain ⟨rfl, rfl⟩ := rt_inj h2
      exact hok _ rfl _ W2 H2 (l1.trans l2) R2 (by
        show RepL X.K cl W2 (v :: vs) (x :: xs)
        unfold RepL
        exact ⟨x, xs, rfl, Rep.mono l2 _ _ rp, rq⟩)
    · obtain ⟨te, pe, Je⟩ := Se.jp g h1 nd.1
      refine ⟨_, pa_cons pe p2 (star_cons hs'.1), ?_⟩
      intro W0 H0 W s σ H Q out s' R h hok hx
      refine Je.go R h hx (fun v s1 h1 x W1 H1 l1 R1 rp => ?_)
      refine J2.go R1 h1 (hx_le l1 hx) (fun vs s2 h2 xs W2 H2 l2 R2 rq => ?_)
      obtain ⟨rfl, rfl⟩ := rt_inj h2
      exact hok _ rfl _ W2 H2 (l1.trans l2) R2 ⟨PlR.mono l2 rp, rq⟩
end Lk

namespace Lk
open PySem L2
section
variable {cl : String → Option Addr} {X : Cx} {c : Kx} {k : Nat} {Wx : WX} {F : Fn} {p : Expr}
theorem sv_lst {es : XEs} (S : SA es) : SV (.lst es) := fun {cl X c k Wx F p} g h nd => by
  cases p with
  | List ps pos =>
    obtain ⟨h1, h2⟩ := and_t h
    obtain ⟨⟨t, pt, J⟩, _⟩ := S g h1 h2 nd
    have hp := pe_lst (pos := pos) pt
    refine ⟨_, hp, asg_of g hp rfl, ?_⟩
    intro W0 H0 W s σ H Q out s' R h hok hx
    refine J.go R h hx (fun vs s1 h1 xs W1 H1 l1 R1 rp => ?_)
    have h1 : (if vs.length ≤ SL then rt (PV.lst vs, true) s1 else none) = some (out, s') := h1
    split at h1
    · rename_i hl
      obtain ⟨rfl, rfl⟩ := rt_inj h1
      exact ⟨by rw [← SL_eq, ← RepL.length rp]; exact hl, fun q hn => hok_new rfl hok l1 R1 (.inr ⟨q, _, rfl, hn, rfl, ⟨xs, rfl, rp⟩, .inl ⟨rfl, rfl⟩⟩)⟩
    · cases h1
  | _ => exact ff h
theorem sv_tup {es : XEs} (S : SA es) : SV (.tup es) := fun {cl X c k Wx F p} g h nd => by
  cases p with
  | Tuple ps kk pos =>
    obtain ⟨h1, h2⟩ := and_t h
    obtain ⟨⟨t, pt, J⟩, _⟩ := S g h1 h2 nd
    have hp := pe_tup (pos := pos) (x1 := kk) pt
    refine ⟨_, hp, asg_of g hp rfl, ?_⟩
    intro W0 H0 W s σ H Q out s' R h hok hx
    refine J.go R h hx (fun vs s1 h1 xs W1 H1 l1 R1 rp => ?_)
    have h1 : (if vs.length ≤ SL then rt (PV.tup vs, false) s1 else none) = some (out, s') := h1
    split at h1
    · rename_i hl
      obtain ⟨rfl, rfl⟩ := rt_inj h1
      exact ⟨by rw [← SL_eq, ← RepL.length rp]; exact hl, fun q hn => hok_new rfl hok l1 R1 (.inr ⟨q, _, rfl, hn, rfl, ⟨xs, rfl, rp⟩, .inr ⟨rfl, rfl⟩⟩)⟩
    · cases h1
  | _ => exact ff h
theorem sv_dnew {t : Bool} : SV (.dnew t) := fun {cl X c k Wx F p} g h nd => by
  cases p with
  | Dict ks vs pos =>
    match ks, vs, h with
    | [], [], h =>
      cases t with
      | false =>
        have hp := pe_dnewK (X := X) (pos := pos)
        refine ⟨_, hp, asg_of g hp rfl, ?_⟩
        intro W0 H0 W s σ H Q out s' R h hok hx
        obtain ⟨rfl, rfl⟩ := rt_inj (show rt (PV.dic false [], true) s = _ from h)
        exact fun q hn => hok_new rfl hok (.refl W) R (.inr ⟨q, _, rfl, hn, rfl, ⟨[], rfl, by unfold RepK; rfl⟩, .inl ⟨rfl, rfl⟩⟩)
      | true =>
        have hp := pe_dnewT (X := X) (pos := pos)
        refine ⟨_, hp, asg_of g hp rfl, ?_⟩
        intro W0 H0 W s σ H Q out s' R h hok hx
        obtain ⟨rfl, rfl⟩ := rt_inj (show rt (PV.dic true [], true) s = _ from h)
        exact fun q hn => hok_new rfl hok (.refl W) R (.inr ⟨q, _, rfl, hn, rfl, ⟨[], rfl, by unfold RepT; rfl⟩, .inl ⟨rfl, rfl⟩⟩)
    | _ :: _, _, h => exact ff h
    | [], _ :: _, h => exact ff h
  | _ => exact ff h
/-- nobody's object goes into the store -/
theorem Rl.inject {K : PySem.W.Frag} {W0 W : Wd} {H0 H : Hp} {s : Sg} {σ : L2.St} {a : Addr} {q : PV} (R : Rl K cl W0 H0 W s σ H) (f : Fresh K cl W0 H0 W s σ H a q) :
    W.le ⟨W.F, W.inj ++ [a]⟩ ∧ Rl K cl W0 H0 ⟨W.F, W.inj ++ [a]⟩ { s with mu := s.mu ++ [q] } σ H := by
  have le : W.le ⟨W.F, W.inj ++ [a]⟩ := ⟨fun _ _ h => h, [a], rfl⟩
  refine ⟨le, ⟨R.rm.sub, fun j b e => ?_, by simp [R.rm.len], ?_⟩, ⟨R.si.le.trans le, R.si.keep, R.si.newF, fun b hb => ?_, R.si.back⟩, R.len, fun i v h => ?_, fun i v h => ?_, R.dist⟩
  · by_cases hj : j < W.inj.length
    · have e' : W.inj[j]? = some b := by rw [← e]; exact (List.getElem?_append_left hj).symm
      obtain ⟨v, ev, t, fv⟩ := R.rm.at_ j b e'
      exact ⟨v, by rw [List.getElem?_append_left (by rw [← R.rm.len]; exact hj)]; exact ev, t.mono le (fun _ h => h) (fun _ h => h), fv⟩
    · have hj' : j = W.inj.length := by
        have := (List.getElem?_eq_some_iff.mp e).1
        simp at this; omega
      subst hj'
      have eb : b = a := by simpa using e.symm
      subst eb
      exact ⟨q, by rw [R.rm.len]; simp, f.at_.mono le (fun _ h => h) (fun _ h => h), f.f⟩
  · rw [List.nodup_append]
    refine ⟨R.rm.nd, by simp, fun x hx y hy e => ?_⟩
    have : y = a := by simpa using hy
    subst this; subst e
    exact f.i hx
  · have : b ∈ W.inj ∨ b = a := by simpa using hb
    rcases this with z | z
    · exact R.si.newI b z
    · subst z; exact .inr f.z
  · obtain ⟨v', e, r⟩ := R.val i v h
    exact ⟨v', e, r.mono le⟩
  · obtain ⟨b, e, t, f', n', z'⟩ := R.own i v h
    refine ⟨b, e, t.mono le (fun _ h => h) (fun _ h => h), f', fun hm => ?_, z'⟩
    have : b ∈ W.inj ∨ b = a := by simpa using hm
    rcases this with z | z
    · exact n' z
    · subst z; exact f.o i v h e
theorem sv_nref {e : XE} (S : SV e) : SV (.nref e) := fun {cl X c k Wx F p} g h nd => by
  obtain ⟨h1, h2⟩ := and_t h
  obtain ⟨te, hp, _, J⟩ := S g h2 nd
  refine ⟨te, hp, asg_of g hp h1, ?_⟩
  intro W0 H0 W s σ H Q out s' R h hok hx
  refine J.go R h hx (fun r s1 h1 x W1 H1 l1 R1 rp => ?_)
  have h1 : (if r.2 && isCont r.1 then rt (PV.ref s1.mu.length, false) { s1 with mu := s1.mu ++ [r.1] } else none) = some (out, s') := h1
  split at h1
  · rename_i hb
    obtain ⟨rfl, rfl⟩ := rt_inj h1
    have rp' : Res X.K cl W0 H0 W1 s1 σ H1 x r := rp
    unfold Res at rp'
    rw [hb] at rp'
    obtain ⟨a, ev, fr⟩ := rp'
    obtain ⟨le, R2⟩ := R1.inject fr
    refine hok _ rfl x _ H1 (l1.trans le) R2 (res_val ?_)
    unfold Rep
    exact ⟨a, ev, by rw [← R1.rm.len]; simp⟩
  · cases h1
theorem sv_idx {a i : XE} (Sa : SV a) (Si : SV i) : SV (.idx a i) := fun {cl X c k Wx F p} g h nd => by
  cases p with
  | Subscript pa pi pos =>
    obtain ⟨h1, h2⟩ := and_t h
    obtain ⟨h2, h3⟩ := and_t h2
    obtain ⟨ta, pa, Ja⟩ := Sa.jp g h2 nd.1
    obtain ⟨ti, pi, Ji⟩ := Si.je g h3 nd.2
    have hp := pe_ix (pos := pos) (idx_ok (cl := cl) g.hu) pa pi (plain_ix h1)
    refine ⟨_, hp, asg_of g hp rfl, ?_⟩
    intro W0 H0 W s σ H Q out s' R h hok hx
    refine Ja.go R h hx (fun pl s1 h1 x W1 H1 l1 R1 rp => ?_)
    refine Ji.go R1 h1 (hx_le l1 hx) (fun kv s2 h2 y W2 H2 l2 R2 rq => ?_)
    obtain ⟨xv, ex, h3⟩ := op1_cases h2
    obtain ⟨v, ev, h4⟩ := op1_cases h3
    obtain ⟨rfl, rfl⟩ := rt_inj h4
    exact ⟨W2, xv, kv, v, R2.rm.sub, look_ok R2 (PlR.mono l2 rp) ex, rq, ev, fun z hz => hok _ rfl z W2 H2 (l1.trans l2) R2 (res_val hz)⟩
  | _ => exact ff h
/-- a slice's part -/
theorem po_of {lo : XE} (S : SV lo) (g : Gd cl X c k Wx F) {l : Option Expr} (h : poB lo (fun q => chkE lo c false q) l = true) (nd : NdE (gv cl X) k lo) :
    ∃ tl, PO X l tl ∧ JG X.K cl Wx tl (fun s => bd (fz (evR lo F s)) fun l s => op1 (part lo l) fun l => rt l s) (fun _ _ _ _ _ _ v a => v = a) := by
  have some' : ∀ pl, l = some pl → chkE lo c false pl = true → lo ≠ .nop → ∃ tl, PO X l tl ∧ JG X.K cl Wx tl (fun s => bd (fz (evR lo F s)) fun l s => op1 (part lo l) fun l => rt l s) (fun _ _ _ _ _ _ v a => v = a) := fun pl el hc hn => by
    subst el
    obtain ⟨te, hp, J⟩ := S.je g hc nd
    refine ⟨_, po_some hp, ?_⟩
    intro W0 H0 W s σ H Q out s' R h hok hx
    refine J.go R h hx (fun v s1 h1 x W1 H1 l1 R1 rp => ?_)
    obtain ⟨o, eo, h2⟩ := op1_cases h1
    obtain ⟨rfl, rfl⟩ := rt_inj h2
    unfold part at eo
    split at eo
    · exact absurd rfl hn
    · cases eo
      have rp' : Rep X.K cl W1 (.int _) x := rp
      unfold Rep at rp'
      exact ⟨_, rp', hok _ rfl _ W1 H1 l1 R1 rfl⟩
    · cases eo
  cases lo with
  | nop =>
    cases l with
    | none =>
      refine ⟨_, po_none, ?_⟩
      intro W0 H0 W s σ H Q out s' R h hok hx
      obtain ⟨rfl, rfl⟩ := rt_inj (show rt (none : Option Int) s = _ from h)
      exact hok _ rfl _ W H (.refl W) R rfl
    | some _ => exact ff h
  | _ =>
    cases l with
    | none => exact ff h
    | some pl => exact some' pl rfl h (by intro q; cases q)
theorem sv_slc {a lo hi : XE} (Sa : SV a) (Sl : SV lo) (Sh : SV hi) : SV (.slc a lo hi) := fun {cl X c k Wx F p} g h nd => by
  cases p with
  | Subscript pa pi pos =>
    cases pi with
    | Slice l hh st p2 =>
      cases st with
      | none =>
        obtain ⟨h1, h2⟩ := and_t h
        obtain ⟨h2, h3⟩ := and_t h2
        obtain ⟨ta, pa, Ja⟩ := Sa.jp g h1 nd.1
        obtain ⟨tl, pl, Jl⟩ := po_of Sl g h2 nd.2.1
        obtain ⟨th, ph, Jh⟩ := po_of Sh g h3 nd.2.2
        have hp := pe_slice (pos := pos) (p2 := p2) (slc_ok (X := X) (cl := cl)) pa pl ph
        refine ⟨_, hp, asg_of g hp rfl, ?_⟩
        intro W0 H0 W s σ H Q out s' R h hok hx
        refine Ja.go R h hx (fun pl s1 h1 x W1 H1 l1 R1 rp => ?_)
        have h1 : bd (bd (fz (evR lo F s1)) fun l s => op1 (part lo l) fun l => rt l s) (fun l s => bd (bd (fz (evR hi F s)) fun l s => op1 (part hi l) fun l => rt l s) fun h s => op1 (s.look pl) fun x => op1 (slcP x l h) fun r => rt r s) = some (out, s') := by
          rw [← h1, bd_assoc]
          congr 1; funext lv s2
          rw [bd_op1]; congr 1; funext lv'
          rw [bd_rt, bd_assoc]
          congr 1; funext hv s3
          rw [bd_op1]; rfl
        refine Jl.go R1 h1 (hx_le l1 hx) (fun lv s2 h2 y W2 H2 l2 R2 rq => ?_)
        cases (show y = lv from rq)
        refine Jh.go R2 h2 (hx_le (l1.trans l2) hx) (fun hv s3 h3 z W3 H3 l3 R3 rz => ?_)
        cases (show z = hv from rz)
        obtain ⟨xv, ex, h4⟩ := op1_cases h3
        obtain ⟨v, ev, h5⟩ := op1_cases h4
        obtain ⟨rfl, rfl⟩ := rt_inj h5
        exact ⟨W3, xv, v, R3.rm.sub, look_ok R3 (PlR.mono (l2.trans l3) rp) ex, ev, fun w H' n => hok_new rfl hok ((l1.trans l2).trans l3) R3 n⟩
      | some _ => exact ff h
    | _ => exact ff h
  | _ => exact ff h
theorem sv_rev {a : XE} (Sa : SV a) : SV (.rev a) := fun {cl X c k Wx F p} g h nd => by
  match p, h with
  | .Subscript pa (.Slice none none (some (.UnaryOp .USub (.Constant kk j p1) p2)) p3) pos, h =>
    obtain ⟨h1, h2⟩ := and_t (show (cstB (.int 1) kk && chkE a c false pa) = true from h)
    have ek : kk = .int 1 := by
      cases kk <;> first | exact ff h1 | skip
      rename_i i
      have : (1 : Int) = i := dec_t h1
      rw [this]
    subst ek
    obtain ⟨ta, pa, Ja⟩ := Sa.jp g h2 nd
    have hp := pe_revL (k := j) (p1 := p1) (p2 := p2) (p3 := p3) (pos := pos) pa
    refine ⟨_, hp, asg_of g hp rfl, ?_⟩
    intro W0 H0 W s σ H Q out s' R h hok hx
    refine Ja.go R h hx (fun pl s1 h1 x W1 H1 l1 R1 rp => ?_)
    obtain ⟨xv, ex, h3⟩ := op1_cases h1
    cases xv with
    | lst xs =>
      obtain ⟨rfl, rfl⟩ := rt_inj (show rt (PV.lst xs.reverse, true) s1 = _ from h3)
      obtain ⟨b, ys, eb, hb, rb⟩ := look_ok R1 rp ex
      exact ⟨b, ys, eb, .inl (.inl hb), fun q hn => hok_new rfl hok l1 R1 (.inr ⟨q, _, rfl, hn, rfl, ⟨_, rfl, rb.reverse⟩, .inl ⟨rfl, rfl⟩⟩)⟩
    | _ => cases h3
end
end Lk

namespace Lk
open PySem L2
theorem boot_prim (f : Prim) : bootBuiltins (primN f) = some (primV f) := by cases f <;> rfl
theorem prim_names (f : Prim) : primN f ∈ bltNames := by cases f <;> decide +kernel
theorem str_inj {a b : String} (h : (Str.ofString a) = Str.ofString b) : a = b := by
  rw [Str.ofString_eq_toList, Str.ofString_eq_toList] at h
  injection h with h
  have h2 : a.toList.map Char.toNat = b.toList.map Char.toNat := by
    have := congrArg Array.toList h
    simpa using this
  have h3 : a.toList = b.toList := by
    refine List.map_inj_right (fun x y e => ?_) |>.mp h2
    exact Char.toNat_inj.mp e
  exact String.toList_inj.mp h3
section
variable {cl : String → Option Addr} {X : Cx} {c : Kx} {k : Nat} {Wx : WX} {F : Fn} {p : Expr}
/-- behind a call -/
theorem back_call {K : PySem.W.Frag} {W0 W W' : Wd} {H0 H H' : Hp} {s : Sg} {σ : L2.St} {mu' : List PV} {v : V} {r : PV × Bool} (R : Rl K cl W0 H0 W s σ H) (x : Ext W H W' H') (m : RM K cl W' mu' H') (res : ResF K cl H W' H' v r) :
    Rl K cl W0 H0 W' { s with mu := mu' } σ H' ∧ Res K cl W0 H0 W' { s with mu := mu' } σ H' v r := by
  refine ⟨R.step x m, ?_⟩
  unfold ResF at res
  unfold Res
  split at res
  · rename_i hb
    try rw [hb]
    obtain ⟨a, ev, t, f, n, hn⟩ := res
    refine ⟨a, ev, t, f, n, R.si.back a hn, fun i q hq he => ?_⟩
    obtain ⟨b, eb, t', _⟩ := R.own i q hq
    have : a = b := by rw [he] at eb; simpa using eb
    subst this
    obtain ⟨u, eu, _⟩ := t'.ne_none
    rw [hn] at eu; cases eu
  · rename_i hb
    try rw [hb]
    exact res
theorem jg_call {K : PySem.W.Frag} {np : Nat} {G : Fn} {t : TA} {m : Sg → Rs (List PV)} (J : JG K cl Wx t m (rLs K cl)) (hl : ∀ args mu r, G args mu = some r → args.length = np) : JG K cl Wx (tCallS (spFn K cl np G) (WE Wx) t) (fun s => bd (m s) fun vs s => callR G vs s) (rRes K cl) := by
  intro W0 H0 W s σ H Q out s' R h hok hx
  refine J.go R h hx (fun vs s1 h1 xs W1 H1 l1 R1 rp => ?_)
  have h1 : (match G vs s1.mu with
    | some (.ok v, mu) => some (Lk.R.ok v, { s1 with mu := mu })
    | some (.exc c fs, mu) => some (Lk.R.exc c fs, { s1 with mu := mu })
    | none => none) = some (out, s') := h1
  cases e : G vs s1.mu with
  | none => rw [e] at h1; cases h1
  | some q =>
    obtain ⟨o, mu'⟩ := q
    rw [e] at h1
    refine ⟨by rw [← RepL.length rp]; exact hl _ _ _ e, W1, vs, s1.mu, o, mu', R1.rm, rp, e, fun r er v W' H' x m res => ?_, fun cc fs er cls d W' H' x m ex => ?_⟩
    · subst er
      cases h1
      obtain ⟨R2, r2⟩ := back_call R1 x m res
      exact hok _ rfl v W' H' (l1.trans x.le) R2 r2
    · subst er
      cases h1
      exact hx _ _ rfl cls d W' H' (l1.trans x.le) (R1.step x m) ex
theorem sv_calls {es : XEs} {G : Fn} (S : SA es) (g : Gd cl X c k Wx F) {x : Str} {p pos : Pos} {ps : List Expr} (hf : FnKn (gv cl X) k x G) (h1 : glB c x = true) (h2 : noStL ps = true) (h3 : chkA es c ps = true) (nd : NdA (gv cl X) k es) :
    ∃ te, PE X (.Call (.Name x p) ps [] pos) te ∧ AsgN X c (.Call (.Name x p) ps [] pos) te ∧ JG X.K cl Wx te (fun s => bd (evA es F s) fun vs s => callR G vs s) (rRes X.K cl) := by
  obtain ⟨np, a, fd, qs, hl, em, ek, bi, fo⟩ := hf
  obtain ⟨⟨t, pt, J⟩, _⟩ := S g h2 h3 nd
  obtain ⟨g1, g2, g3⟩ := g.gl h1
  cases ps with
  | nil =>
    -- no argument
    have hes : es = .nil := by
      cases es with
      | nil => rfl
      | cons _ _ => exact ff h3
    subst hes
    have J0 : JG X.K cl Wx tNil (evA .nil F) (rLs X.K cl) := by
      intro W0 H0 W s σ H Q out s' R h hok hx
      obtain ⟨rfl, rfl⟩ := rt_inj (show rt [] s = _ from h)
      exact hok _ rfl [] W H (.refl W) R (by show RepL X.K cl W [] []; unfold RepL; rfl)
    have hp := pe_call0S (x := x) (p := p) (pos := pos) (E := WE Wx) fo g.room g1 em ek bi (passAt g.tk) g2
    exact ⟨_, hp, asg_of g hp rfl, jg_call J0 hl⟩
  | cons q qs' =>
    have hs' : noSt q = true ∧ noStL qs' = true := by
      unfold noStL at h2 ⊢
      simpa using h2
    have hp := pe_callS (x := x) (p := p) (pos := pos) (E := WE Wx) fo g.room g1 em ek bi (passAt g.tk) pt g2 (star_cons hs'.1) (star_any hs'.2)
    exact ⟨_, hp, asg_of g hp rfl, jg_call J hl⟩
theorem sv_call {f : XF} {es : XEs} (S : SA es) : SV (.call f es) := fun {cl X c k Wx F p} g h nd => by
  cases p with
  | Call fe ps kws pos =>
    cases fe with
    | Name x q =>
      cases kws with
      | nil =>
        cases f with
        | mk nm np ns n body =>
          obtain ⟨h1, h2⟩ := and_t h
          obtain ⟨h2, h3⟩ := and_t h2
          obtain ⟨h3, h4⟩ := and_t h3
          have ex : x = (nm : Str) := dec_t h1
          subst ex
          exact sv_calls S g nd.1 h2 h3 h4 nd.2
      | cons _ _ => exact ff h
    | _ => exact ff h
  | _ => exact ff h
theorem sv_self {es : XEs} (S : SA es) : SV (.self es) := fun {cl X c k Wx F p} g h nd => by
  cases p with
  | Call fe ps kws pos =>
    cases fe with
    | Name x q =>
      cases kws with
      | nil =>
        obtain ⟨h1, h2⟩ := and_t h
        obtain ⟨h2, h3⟩ := and_t h2
        obtain ⟨h3, h4⟩ := and_t h3
        exact sv_calls S g (g.self x (dec_t h1)) h2 h3 h4 nd
      | cons _ _ => exact ff h
    | _ => exact ff h
  | _ => exact ff h
theorem sv_prm {f : Prim} {es : XEs} (S : SA es) : SV (.prm f es) := fun {cl X c k Wx F p} g h nd => by
  cases p with
  | Call fe ps kws pos =>
    cases fe with
    | Name x q =>
      cases kws with
      | nil =>
        obtain ⟨h1, h2⟩ := and_t h
        obtain ⟨h2, h3⟩ := and_t h2
        obtain ⟨h3, h4⟩ := and_t h3
        obtain ⟨h4, h5⟩ := and_t h4
        have ex : x = primN f := dec_t h1
        subst ex
        obtain ⟨_, ⟨t, pt, J⟩⟩ := S g h3 h5 nd
        obtain ⟨g1, g2, g3⟩ := g.gl h2
        cases ps with
        | nil => exact ff h4
        | cons q' qs' =>
          have hs' : noSt q' = true ∧ noStL qs' = true := by
            unfold noStL at h3 ⊢
            simpa using h3
          have hp : PE X (.Call (.Name (primN f) q) (q' :: qs') [] pos) (tCB (rPrm X.K cl (primP f)) t) := by
            have hb := boot_prim f
            have hc := prim_ok (cl := cl) g.calm f
            cases f <;> first
              | exact pe_callB hc g1 (g.blt _ (prim_names _)) hb pt g3 g2 (star_cons hs'.1) (star_any hs'.2)
              | exact pe_callTy hc g1 (g.blt _ (prim_names _)) hb pt g3 g2 (star_cons hs'.1) (star_any hs'.2)
          refine ⟨_, hp, asg_of g hp rfl, ?_⟩
          intro W0 H0 W s σ H Q out s' R h hok hx
          refine J.go R h hx (fun pls s1 h1 xs W1 H1 l1 R1 rp => ?_)
          obtain ⟨vs, ev, h2⟩ := op1_cases h1
          obtain ⟨r, er, h3⟩ := op1_cases h2
          obtain ⟨rfl, rfl⟩ := rt_inj h3
          exact ⟨W1, vs, r, R1.rm.sub, lookL_ok R1 rp ev, er, fun v H' n => hok_new rfl hok l1 R1 n⟩
      | cons _ _ => exact ff h
    | _ => exact ff h
  | _ => exact ff h
theorem repF_get {K : PySem.W.Frag} {W : Wd} {f : String} {q : PV} : ∀ {fs : List (String × PV)} {l : List (Str × V)}, RepF K cl W fs l → (fs.find? fun e => e.1 == f).map (·.2) = some q → ∃ v, l.lookup (f : Str) = some v ∧ Rep K cl W q v
  | [], _, _, e => by cases e
  | (n, p) :: r, l, h, e => by
    unfold RepF at h
    obtain ⟨x, t, rfl, h1, h2⟩ := h
    by_cases hn : n = f
    · subst hn
      simp at e
      subst e
      exact ⟨x, by simp [List.lookup], h1⟩
    · have hb : (n == f) = false := by simpa using hn
      rw [List.find?_cons] at e
      simp only [hb] at e
      obtain ⟨v, e1, e2⟩ := repF_get h2 e
      refine ⟨v, ?_, e2⟩
      have hs : ((f : Str) == (n : Str)) = false := by
        rw [beq_eq_false_iff_ne]
        intro q
        exact hn (str_inj q).symm
      rw [List.lookup_cons, hs]
      exact e1
theorem sv_fld {a : XE} {C f : String} (Sa : SV a) : SV (.fld a C f) := fun {cl X c k Wx F p} g h nd => by
  cases p with
  | Attribute pa x pos =>
    obtain ⟨h1, h2⟩ := and_t h
    obtain ⟨h2, h3⟩ := and_t h2
    have ex : x = (f : Str) := dec_t h1
    subst ex
    obtain ⟨⟨C', e1, e2, e3⟩, nd⟩ := nd
    obtain ⟨ta, pa', Ja⟩ := Sa.jp g h3 nd
    have hp := pe_fld (pos := pos) (f := (f : Str)) pa' (base_of h2)
    refine ⟨_, hp, asg_of g hp rfl, ?_⟩
    intro W0 H0 W s σ H Q out s' R h hok hx
    refine Ja.go R h hx (fun pl s1 h1 x W1 H1 l1 R1 rp => ?_)
    obtain ⟨v, ev, h2⟩ := op1_cases h1
    obtain ⟨r, er, h3⟩ := op1_cases h2
    obtain ⟨rfl, rfl⟩ := rt_inj h3
    unfold fget at er
    split at er
    · rename_i D fs
      split at er
      · rename_i hD
        subst hD
        obtain ⟨b, c', dx, l, eb, hb, hd, ec, rf⟩ := look_ok R1 rp ev
        obtain ⟨y, ey, ry⟩ := repF_get rf er
        have : c' = C' := by
          have := ec.symm.trans e1
          simpa using this
        subst this
        exact ⟨b, c', dx, l, y, eb, hb, e2, e3, ey, hok _ rfl y W1 H1 l1 R1 (res_val ry)⟩
      · cases er
    · cases er
  | _ => exact ff h
theorem ne_upd {H : Hp} {a b : Addr} {o : HO} (h : H b = none) (n : b ≠ a) : upd H a o b = none := by rw [upd_ne n]; exact h
/-- JG of a new instance -/
theorem jg_make {K : PySem.W.Frag} {np : Nat} {G : Fn} {t : TA} {m : Sg → Rs (List PV)} {C : String} {c : Addr} (hc : cl C = some c) (J : JG K cl Wx t m (rLs K cl)) (hl : ∀ args mu r, G args mu = some r → args.length = np) :
    JG K cl Wx (tMakeS c (spFn K cl np G) (WE Wx) t) (fun s => bd (m s) fun vs s => match G (.ref s.mu.length :: vs) (s.mu ++ [.ins C []]) with
    | some (.ok (.non, _), mu) => rt (.ref s.mu.length, false) { s with mu := mu }
    | some (.exc c fs, mu) => some (.exc c fs, { s with mu := mu })
    | _ => none) (rRes K cl) := by
  intro W0 H0 W s σ H Q out s' R h hok hx
  refine J.go R h hx (fun vs s1 h1 xs W1 H1 l1 R1 rp => ?_)
  intro x dx hxn hdn hne
  have h1 : (match G (.ref s1.mu.length :: vs) (s1.mu ++ [.ins C []]) with
    | some (.ok (.non, _), mu) => rt (PV.ref s1.mu.length, false) { s1 with mu := mu }
    | some (.exc c fs, mu) => some (.exc c fs, { s1 with mu := mu })
    | _ => none) = some (out, s') := h1
  have R2 := R1.step (Ext.alloc (o := .own x) hdn) (R1.rm.alloc (o := .own x) hdn)
  have hxn' : upd H1 dx (.own x) x = none := ne_upd hxn (Ne.symm hne)
  have R3 := R2.step (Ext.alloc (o := .ins c dx []) hxn') (R2.rm.alloc (o := .ins c dx []) hxn')
  have fr : Fresh K cl W0 H0 W1 s1 σ (upd (upd H1 dx (.own x)) x (.ins c dx [])) x (.ins C []) := by
    refine ⟨⟨c, dx, [], upd_same, by rw [upd_ne hne]; exact upd_same, hc, by unfold RepF; rfl⟩, ?_, fun hm => ?_, R1.si.back x hxn, fun i q hq he => ?_⟩
    · cases q : W1.F x with
      | none => rfl
      | some u => rw [R1.rm.sub x u q] at hxn; cases hxn
    · obtain ⟨u, eu, _⟩ := R1.rm.mem hm
      rw [hxn] at eu; cases eu
    · obtain ⟨b, eb, t, _⟩ := R1.own i q hq
      have : x = b := by rw [he] at eb; simpa using eb
      subst this
      obtain ⟨u, eu, _⟩ := t.ne_none
      rw [hxn] at eu; cases eu
  obtain ⟨le, R4⟩ := R3.inject fr
  have rk : Rep K cl ⟨W1.F, W1.inj ++ [x]⟩ (.ref s1.mu.length) (.ref x) := by
    unfold Rep
    exact ⟨x, rfl, by rw [← R1.rm.len]; simp⟩
  cases e : G (.ref s1.mu.length :: vs) (s1.mu ++ [.ins C []]) with
  | none => rw [e] at h1; cases h1
  | some q =>
    obtain ⟨o, mu'⟩ := q
    rw [e] at h1
    refine ⟨by rw [← hl _ _ _ e, List.length_cons, List.length_cons, RepL.length rp], _, _, _, o, mu', R4.rm, RepL.cons rk (RepL.mono le _ _ rp), e, fun r er v W' H' xx m res => ?_, fun cc fs er cls d W' H' xx m ex => ?_⟩
    · subst er
      obtain ⟨p, b⟩ := r
      cases p with
      | non =>
        obtain ⟨rfl, rfl⟩ := rt_inj (show rt (PV.ref s1.mu.length, false) { s1 with mu := mu' } = _ from h1)
        have hv : v = .non := by
          unfold ResF at res
          have hb : (b && isCont PV.non) = false := by cases b <;> rfl
          simp only [hb] at res
          unfold Rep at res
          exact res
        refine ⟨hv, hok _ rfl _ W' H' (l1.trans (le.trans xx.le)) (R4.step xx m) (by show Res K cl _ _ _ _ _ _ _ (_, false); unfold Res; exact Rep.mono xx.le _ _ rk)⟩
      | _ => cases h1
    · subst er
      cases h1
      exact hx _ _ rfl cls d W' H' (l1.trans (le.trans xx.le)) (R4.step xx m) ex
theorem sv_make {C : String} {f : XF} {es : XEs} (S : SA es) : SV (.make C f es) := fun {cl X c k Wx F p} g h nd => by
  cases p with
  | Call fe ps kws pos =>
    cases fe with
    | Name x q =>
      cases kws with
      | nil =>
        obtain ⟨h1, h20⟩ := and_t h
        obtain ⟨h2, h30⟩ := and_t h20
        obtain ⟨h3, h40⟩ := and_t h30
        obtain ⟨h4, h5⟩ := and_t h40
        have ex : x = (C : Str) := dec_t h1
        subst ex
        obtain ⟨⟨np, a, fI, fd, qs, k', hk, hl, em, ec, mk, bi, fo⟩, nd⟩ := nd
        obtain ⟨⟨t, pt, J⟩, _⟩ := S g h3 h5 nd
        obtain ⟨g1, g2, g3⟩ := g.gl h2
        cases ps with
        | nil => exact ff h4
        | cons q' qs' =>
          have hs' : noSt q' = true ∧ noStL qs' = true := by
            unfold noStL at h3 ⊢
            simpa using h3
          have hp := pe_makeS (p := q) (pos := pos) (E := WE Wx) mk fo (g.room.mono hk) g1 em bi (passAt g.tk) pt g2 (star_cons hs'.1) (star_any hs'.2)
          exact ⟨_, hp, asg_of g hp rfl, jg_make ec J hl⟩
      | cons _ _ => exact ff h
    | _ => exact ff h
  | _ => exact ff h
end
end Lk

namespace Lk
open PySem L2 PySem.Spec PyProof.Rows
section
variable {cl : String → Option Addr} {X : Cx} {c : Kx} {k : Nat} {Wx : WX} {F : Fn} {p : Expr}
/-- a method that changes nothing: what it wants -/
def rMet (K : PySem.W.Frag) (cl : String → Option Addr) (m : Met) (z : PV) : V → List V → Hp → VK → Prop := fun x xs H Q => ∃ W y ps q, Sub W H ∧ RH K cl W H x y ∧ RHL K cl W H xs ps ∧ sameK z y = true ∧ metP m y ps = some q ∧ ∀ v, Rep K cl W q v → Q v H
/-- of MtR's shape, under another promise -/
theorem MtR.imp {id : String} {r r' : V → List V → Hp → VK → Prop} (h : MtR X id r) (i : ∀ x xs H Q, r' x xs H Q → r x xs H Q) : MtR X id r' := fun pins s σ H x xs v us Q I rx rs q => h pins s σ H x xs v us Q I rx rs (i _ _ _ _ q)
theorem rhl_two {K : PySem.W.Frag} {W : Wd} {H : Hp} {xs : List V} {a b : PV} (h : RHL K cl W H xs [a, b]) : ∃ x y, xs = [x, y] ∧ RH K cl W H x a ∧ RH K cl W H y b := by
  match xs, h with
  | [x, y], h => exact ⟨x, y, rfl, h.1, h.2.1⟩
theorem rhl_one {K : PySem.W.Frag} {W : Wd} {H : Hp} {xs : List V} {a : PV} (h : RHL K cl W H xs [a]) : ∃ x, xs = [x] ∧ RH K cl W H x a := by
  match xs, h with
  | [x], h => exact ⟨x, rfl, h.1⟩
def rMetA (K : PySem.W.Frag) (cl : String → Option Addr) (m : Met) (z : PV) : V → List V → Hp → VK → Prop := fun x xs H Q => ∃ W y ps q, Sub W H ∧ RH K cl W H x y ∧ RepL K cl W ps xs ∧ sameK z y = true ∧ metP m y ps = some q ∧ ∀ v, Rep K cl W q v → Q v H
theorem repl_two {K : PySem.W.Frag} {W : Wd} {xs : List V} {a b : PV} (h : RepL K cl W [a, b] xs) : ∃ x y, xs = [x, y] ∧ Rep K cl W a x ∧ Rep K cl W b y := by
  unfold RepL at h
  obtain ⟨x, t, rfl, h1, h2⟩ := h
  unfold RepL at h2
  obtain ⟨y, t', rfl, h3, h4⟩ := h2
  unfold RepL at h4
  subst h4
  exact ⟨x, y, rfl, h1, h3⟩
theorem repl_one {K : PySem.W.Frag} {W : Wd} {xs : List V} {a : PV} (h : RepL K cl W [a] xs) : ∃ x, xs = [x] ∧ Rep K cl W a x := by
  unfold RepL at h
  obtain ⟨x, t, rfl, h1, h2⟩ := h
  unfold RepL at h2
  subst h2
  exact ⟨x, rfl, h1⟩
theorem repl_zero {K : PySem.W.Frag} {W : Wd} {xs : List V} (h : RepL K cl W [] xs) : xs = [] := by
  unfold RepL at h
  exact h
theorem join_kit {z : PV} {H : Hp} {x : V} {W : Wd} (hk : metK .join z = true) (hz : RH X.K cl W H x z) : MKit X "join" x H (rMet X.K cl .join z) := by
  cases z with
  | str s0 =>
    have h' : Rep X.K cl W (.str s0) x := hz
    unfold Rep at h'
    subst h'
    refine kit_str PySem.F.slot_str_join PySem.F.type_str_join (MtR.imp mt_join fun x xs H Q h => ?_)
    obtain ⟨W, y, ps, q, sub, hy, hp, hs, e, fin⟩ := h
    unfold metP at e
    split at e
    · rename_i s ys _
      have h' : Rep X.K cl W (.str s) x := hy
      unfold Rep at h'
      subst h'
      obtain ⟨v, rfl, hv⟩ := rhl_one hp
      obtain ⟨b, xs', rfl, hb, rb⟩ := hv
      cases es : strsOf ys with
      | none => rw [es] at e; cases e
      | some ss =>
        rw [es] at e
        simp only [Option.bind_some] at e
        split at e
        · rename_i hl
          cases e
          have exs := RepL.strs es rb
          subst exs
          refine ⟨_, b, ss.map fun s => ⟨s.toArray⟩, rfl, rfl, .inl ?_, ?_, ?_⟩
          · refine .inl (.inl ?_)
            rw [hb, List.map_map]; rfl
          · have e1 : ((ss.map fun s => (⟨s.toArray⟩ : Str)).map (·.length)) = ss.map List.length := by
              rw [List.map_map]
              exact List.map_congr_left fun s _ => str_len s
            rw [e1, List.length_map, str_len]
            exact hl
          · rw [txt_join]
            exact fin _ (by unfold Rep; rfl)
        · cases e
    · cases hs
    · cases e
  | _ => exact ff hk
theorem met_kit (hu : X.A.units + 65 < cLine) {m : Met} {z : PV} {H : Hp} {x : V} {W : Wd} (hm : m ≠ .join) (hk : metK m z = true) (hz : RH X.K cl W H x z) : MKit X (metN m) x H (rMetA X.K cl m z) := by
  cases m with
  | join => exact absurd rfl hm
  | index => cases z <;> exact ff hk
  | get =>
    cases z with
    | dic t kvs =>
      have hd : ∃ a, x = .ref a ∧ IsD H a := by
        cases t
        · obtain ⟨a, l, ea, h, _⟩ := hz
          exact ⟨a, ea, .inl ⟨l, h⟩⟩
        · obtain ⟨a, l, ea, h, _⟩ := hz
          exact ⟨a, ea, .inr ⟨l, h⟩⟩
      obtain ⟨a, rfl, hd⟩ := hd
      refine kit_dict hd PySem.F.slot_dict_get PySem.F.type_dict_get (MtR.imp (mt_get2 hu) fun x xs H Q h => ?_)
      obtain ⟨W, y, ps, q, sub, hy, hp, hs, e, fin⟩ := h
      unfold metP at e
      split at e
      · cases hs
      · rename_i t' kvs' kk dd _
        obtain ⟨v1, v2, rfl, hv1, hv2⟩ := repl_two hp
        cases ek : keyOf kk with
        | none => rw [ek] at e; cases e
        | some key =>
          rw [ek] at e
          simp only [Option.bind_some] at e
          split at e
          · rename_i hkk
            cases e
            obtain ⟨a', o, ea, g, ho⟩ := get_ok sub hy ek hv1 hkk
            refine ⟨a', v1, v2, o, ea, rfl, g, ?_⟩
            rcases ho with ⟨q, y, e1, e2, e3⟩ | ⟨e1, e2⟩
            · rw [e2]; exact fin _ (by rw [e1]; exact e3)
            · rw [e2]; exact fin _ (by rw [e1]; exact hv2)
          · cases e
      · cases e
    | _ => exact ff hk
end
end Lk

namespace Lk
open PySem L2 PySem.Spec PyProof.Rows
section
variable {cl : String → Option Addr} {X : Cx} {c : Kx} {k : Nat} {Wx : WX} {F : Fn} {p : Expr}
def rMut (K : PySem.W.Frag) (cl : String → Option Addr) (m : Mth) (z : PV) : V → List V → Hp → VK → Prop := fun x xs H Q => ∃ W a y ps r, Sub W H ∧ x = .ref a ∧ At K cl W H a y ∧ RepL K cl W ps xs ∧ sameK z y = true ∧ mutP m y ps = some r ∧
  ∀ o v, At K cl W (upd H a o) a r.1 → Rep K cl W r.2 v → Q v (upd H a o)
def rExt (K : PySem.W.Frag) (cl : String → Option Addr) (z : PV) : V → List V → Hp → VK → Prop := fun x xs H Q => ∃ W a y ps r, Sub W H ∧ x = .ref a ∧ At K cl W H a y ∧ RHL K cl W H xs ps ∧ sameK z y = true ∧ mutP .extend y ps = some r ∧
  ∀ o v, At K cl W (upd H a o) a r.1 → Rep K cl W r.2 v → Q v (upd H a o)
theorem rep_non {K : PySem.W.Frag} {W : Wd} : Rep K cl W .non .non := by unfold Rep; rfl
theorem getE {α : Type} {xs : List α} (h : ∃ a, xs[xs.length - 1]? = some a) : xs ≠ [] := by
  rintro rfl; obtain ⟨a, h⟩ := h; cases h
theorem kit_l {H : Hp} {x : V} {W : Wd} {ls : List PV} {name : Str} {id : String} {r r' : V → List V → Hp → VK → Prop} (hz : RH X.K cl W H x (.lst ls)) (slot : Slot "list" name id) (ty : typeOf (.builtin id) = pure (.type "method_descriptor")) (m : MtR X id r')
    (i : ∀ x xs H Q, r x xs H Q → r' x xs H Q) : MKit X name x H r := by
  obtain ⟨a, xs, rfl, h, _⟩ := hz
  exact kit_list h slot ty (MtR.imp m i)
theorem same_l {ls : List PV} {y : PV} (h : sameK (.lst ls) y = true) : ∃ l, y = .lst l := by
  cases y with
  | lst l => exact ⟨l, rfl⟩
  | _ => exact ff h
theorem at_ins {K : PySem.W.Frag} {W : Wd} {H : Hp} {a : Addr} {l : List PV} (h : At K cl W H a (.lst l)) : ∃ xs, H a = some (.lst xs) ∧ RepL K cl W l xs := h
theorem mut_append {l ps : List PV} {r : PV × PV} (h : mutP .append (.lst l) ps = some r) : ∃ y, ps = [y] ∧ l.length < SL ∧ r = (.lst (l ++ [y]), .non) := by
  match ps, h with
  | [], h => cases h
  | [y], h =>
    have h : (if l.length < SL then some (PV.lst (l ++ [y]), PV.non) else none) = some r := h
    split at h
    · cases h; exact ⟨y, rfl, by assumption, rfl⟩
    · cases h
  | _ :: _ :: _, h => cases h
theorem mut_extend {l ps : List PV} {r : PV × PV} (h : mutP .extend (.lst l) ps = some r) : ∃ y, ps = [.lst y] ∧ l.length + y.length ≤ SL ∧ r = (.lst (l ++ y), .non) := by
  match ps, h with
  | [], h => cases h
  | [y], h =>
    cases y with
    | lst y =>
      have h : (if l.length + y.length ≤ SL then some (PV.lst (l ++ y), PV.non) else none) = some r := h
      split at h
      · cases h; exact ⟨y, rfl, by assumption, rfl⟩
      · cases h
    | _ => cases h
  | y :: _ :: _, h => cases y <;> cases h
theorem mut_pop {l ps : List PV} {r : PV × PV} (h : mutP .pop (.lst l) ps = some r) : (ps = [] ∧ ∃ y, l[l.length - 1]? = some y ∧ r = (.lst l.dropLast, y)) ∨
    ∃ i j y, ps = [.int i] ∧ l.length ≤ SL ∧ ixN' l.length i = some j ∧ l[j]? = some y ∧ r = (.lst (l.eraseIdx j), y) := by
  match ps, h with
  | [], h =>
    have h : (match l[l.length - 1]? with | some y => some (PV.lst l.dropLast, y) | none => none) = some r := h
    split at h
    · cases h; exact .inl ⟨rfl, _, by assumption, rfl⟩
    · cases h
  | [y], h =>
    cases y with
    | int i =>
      have h : (if SL < l.length then none else (ixN' l.length i).bind fun k => (l[k]?).map fun y => (PV.lst (l.eraseIdx k), y)) = some r := h
      split at h
      · cases h
      · rename_i hl
        cases e1 : ixN' l.length i with
        | none => rw [e1] at h; cases h
        | some j =>
          rw [e1] at h
          simp only [Option.bind_some] at h
          cases e2 : l[j]? with
          | none => rw [e2] at h; cases h
          | some y => rw [e2] at h; cases h; exact .inr ⟨i, j, y, rfl, by omega, e1, e2, rfl⟩
    | _ => cases h
  | y :: _ :: _, h => cases y <;> cases h
theorem mut_rev {l ps : List PV} {r : PV × PV} (h : mutP .reverse (.lst l) ps = some r) : ps = [] ∧ r = (.lst l.reverse, .non) := by
  match ps, h with
  | [], h => cases h; exact ⟨rfl, rfl⟩
  | _ :: _, h => cases h
theorem mut_clear {l ps : List PV} {r : PV × PV} (h : mutP .clear (.lst l) ps = some r) : ps = [] ∧ r = (.lst [], .non) := by
  match ps, h with
  | [], h => cases h; exact ⟨rfl, rfl⟩
  | _ :: _, h => cases h
theorem mut_setd {kvs : List (DKey × PV)} {ps : List PV} {r : PV × PV} (h : mutP .setdefault (.dic false kvs) ps = some r) : ∃ k d kk, ps = [k, d] ∧ keyOf k = some (.inl kk) ∧ kvs.length < SL ∧
    ((∃ v, dget kvs (.inl kk) = some v ∧ r = (.dic false kvs, v)) ∨ dget kvs (.inl kk) = none ∧ r = (.dic false (kvs ++ [(.inl kk, d)]), d)) := by
  match ps, h with
  | [], h => cases h
  | [_], h => cases h
  | [k, d], h =>
    have h : (match keyOf k with
    | some (.inl k) => if kvs.length < SL then (match dget kvs (.inl k) with | some v => some (PV.dic false kvs, v) | none => some (.dic false (kvs ++ [(.inl k, d)]), d)) else none
    | _ => none) = some r := h
    split at h
    · rename_i kk hk
      split at h
      · rename_i hl
        split at h
        · rename_i v hv
          cases h; exact ⟨k, d, kk, rfl, hk, hl, .inl ⟨v, hv, rfl⟩⟩
        · rename_i hv
          cases h; exact ⟨k, d, kk, rfl, hk, hl, .inr ⟨hv, rfl⟩⟩
      · cases h
    · cases h
  | _ :: _ :: _ :: _, h => cases h
theorem mut_setd_t {kvs : List (DKey × PV)} {ps : List PV} {r : PV × PV} (h : mutP .setdefault (.dic true kvs) ps = some r) : False := by
  match ps, h with
  | [], h => cases h
  | [_], h => cases h
  | [k, d], h => cases h
  | _ :: _ :: _ :: _, h => cases h
theorem repK_app {K : PySem.W.Frag} {W : Wd} {kk : Key} {d : PV} {y : V} (hy : Rep K cl W d y) : ∀ {kvs : List (DKey × PV)} {l : List (Key × V)}, RepK K cl W kvs l → RepK K cl W (kvs ++ [(.inl kk, d)]) (l ++ [(kk, y)])
  | [], l, h => by
    unfold RepK at h; subst h
    show RepK K cl W [(.inl kk, d)] [(kk, y)]
    unfold RepK
    exact ⟨kk, y, [], rfl, rfl, hy, by unfold RepK; rfl⟩
  | (k, p) :: r, l, h => by
    unfold RepK at h
    obtain ⟨k', x, t, rfl, e1, e2, e3⟩ := h
    show RepK K cl W ((k, p) :: (r ++ _)) ((k', x) :: (t ++ _))
    unfold RepK
    exact ⟨k', x, _, rfl, e1, e2, repK_app hy e3⟩
theorem repK_len {K : PySem.W.Frag} {W : Wd} : ∀ {kvs : List (DKey × PV)} {l : List (Key × V)}, RepK K cl W kvs l → kvs.length = l.length
  | [], l, h => by unfold RepK at h; subst h; rfl
  | (k, p) :: r, l, h => by
    unfold RepK at h
    obtain ⟨k', x, t, rfl, e1, e2, e3⟩ := h
    simp [repK_len e3]
theorem mut_kit {m : Mth} {z : PV} {H : Hp} {x : V} {W : Wd} (hm : m ≠ .extend) (hk : mutK m z = true) (hz : RH X.K cl W H x z) : MKit X (mthN m) x H (rMut X.K cl m z) := by
  cases m with
  | extend => exact absurd rfl hm
  | insert => cases z <;> exact ff hk
  | append =>
    cases z with
    | lst ls =>
      refine kit_l hz PySem.F.slot_list_append PySem.F.type_list_append mt_append fun x xs H Q h => ?_
      obtain ⟨W, a, y, ps, r, sub, rfl, t, rp, sk, e, fin⟩ := h
      obtain ⟨l, rfl⟩ := same_l sk
      obtain ⟨ys, ha, ra⟩ := at_ins t
      obtain ⟨y, rfl, hlen, rfl⟩ := mut_append e
      obtain ⟨v, rfl, rv⟩ := repl_one rp
      exact ⟨a, ys, v, rfl, rfl, ha, by rw [← SL_eq, ← ra.length]; exact hlen, fin _ _ ⟨_, upd_same, ra.append (RepL.cons rv RepL.nil)⟩ rep_non⟩
    | _ => exact ff hk
  | pop =>
    cases z with
    | lst ls =>
      refine kit_l (r' := fun x vs H Q => rPop x vs H Q ∨ rPopAt x vs H Q) hz PySem.F.slot_list_pop PySem.F.type_list_pop (MtR.or mt_pop mt_popAt) fun x xs H Q h => ?_
      obtain ⟨W, a, y, ps, r, sub, rfl, t, rp, sk, e, fin⟩ := h
      obtain ⟨l, rfl⟩ := same_l sk
      obtain ⟨ys, ha, ra⟩ := at_ins t
      rcases mut_pop e with ⟨rfl, y, hy, rfl⟩ | ⟨i, j, y, rfl, hl, hj, hy, rfl⟩
      · obtain ⟨v, ev, rv⟩ := ra.get hy
        exact .inl ⟨a, ys, v, rfl, repl_zero rp, ha, by rw [← ra.length]; exact ev, fin _ _ ⟨_, upd_same, ra.dropLast⟩ rv⟩
      · obtain ⟨v, rfl, rv⟩ := repl_one rp
        have ei : v = .int i := by unfold Rep at rv; exact rv
        subst ei
        obtain ⟨w, ew, rw'⟩ := ra.get hy
        rw [← ixN_eq] at hj
        obtain ⟨s1, s2, s3, s4⟩ := ixN_seq hj
        have hb : l.length ≤ 16777216 := hl
        exact .inr ⟨a, ys, i, j, w, rfl, rfl, ha, by omega, by omega, by rw [← ra.length]; exact s1, ew, fin _ _ ⟨_, upd_same, ra.eraseIdx j⟩ rw'⟩
    | _ => exact ff hk
  | reverse =>
    cases z with
    | lst ls =>
      refine kit_l hz PySem.F.slot_list_reverse PySem.F.type_list_reverse mt_reverse fun x xs H Q h => ?_
      obtain ⟨W, a, y, ps, r, sub, rfl, t, rp, sk, e, fin⟩ := h
      obtain ⟨l, rfl⟩ := same_l sk
      obtain ⟨ys, ha, ra⟩ := at_ins t
      obtain ⟨rfl, rfl⟩ := mut_rev e
      exact ⟨a, ys, rfl, repl_zero rp, ha, fin _ _ ⟨_, upd_same, ra.reverse⟩ rep_non⟩
    | _ => exact ff hk
  | clear =>
    cases z with
    | lst ls =>
      refine kit_l hz PySem.F.slot_list_clear PySem.F.type_list_clear mt_clear fun x xs H Q h => ?_
      obtain ⟨W, a, y, ps, r, sub, rfl, t, rp, sk, e, fin⟩ := h
      obtain ⟨l, rfl⟩ := same_l sk
      obtain ⟨ys, ha, ra⟩ := at_ins t
      obtain ⟨rfl, rfl⟩ := mut_clear e
      exact ⟨a, ys, rfl, repl_zero rp, ha, fin _ _ ⟨_, upd_same, RepL.nil⟩ rep_non⟩
    | _ => exact ff hk
  | setdefault =>
    cases z with
    | dic t kvs =>
      cases t with
      | true => exact ff hk
      | false =>
        obtain ⟨a, l, rfl, hd, _⟩ := hz
        refine kit_dict (.inl ⟨l, hd⟩) PySem.F.slot_dict_setdefault PySem.F.type_dict_setdefault (MtR.imp mt_setd fun x xs H Q h => ?_)
        obtain ⟨W, a, y, ps, r, sub, rfl, t, rp, sk, e, fin⟩ := h
        cases y with
        | dic b kvs' =>
          cases b with
          | true => exact (mut_setd_t e).elim
          | false =>
            obtain ⟨l', ha, ra⟩ := (show ∃ l, H a = some (.dK l) ∧ RepK X.K cl W kvs' l from t)
            obtain ⟨kp, d, kk, rfl, ek, hl, hr⟩ := mut_setd e
            obtain ⟨v1, v2, rfl, r1, r2⟩ := repl_two rp
            have ekv : v1 = kV kk := by
              rcases keyOf_rep sub ek r1 with ⟨k', e1, e2⟩ | ⟨ks, b, e1, e2, e3⟩
              · cases e1; exact e2
              · cases e1
            refine ⟨a, kk, v2, l', rfl, by rw [ekv], ha, by rw [← SL_eq, ← repK_len ra]; exact hl, fun v hv => ?_, fun hn => ?_⟩
            · rcases repK_get kk ra with ⟨p', x, g1, g2, g3⟩ | ⟨g1, g2⟩
              · rcases hr with ⟨v', h1, rfl⟩ | ⟨h1, rfl⟩
                · rw [g1] at h1; cases h1
                  rw [g2] at hv; cases hv
                  have q := fin (.dK l') _ ⟨l', upd_same, ra⟩ g3
                  rw [upd_self ha] at q
                  exact q
                · rw [g1] at h1; cases h1
              · rw [g2] at hv; cases hv
            · rcases repK_get kk ra with ⟨p', x, g1, g2, g3⟩ | ⟨g1, g2⟩
              · rw [g2] at hn; cases hn
              · rcases hr with ⟨v', h1, rfl⟩ | ⟨h1, rfl⟩
                · rw [g1] at h1; cases h1
                · rw [putK_new _ hn]
                  exact fin _ _ ⟨_, upd_same, repK_app r2 ra⟩ r2
        | _ => exact ff sk
    | _ => exact ff hk
theorem ext_kit {z : PV} {H : Hp} {x : V} {W : Wd} (hk : mutK .extend z = true) (hz : RH X.K cl W H x z) : MKit X "extend" x H (rExt X.K cl z) := by
  cases z with
  | lst ls =>
    refine kit_l hz PySem.F.slot_list_extend PySem.F.type_list_extend mt_extend fun x xs H Q h => ?_
    obtain ⟨W, a, y, ps, r, sub, rfl, t, rp, sk, e, fin⟩ := h
    obtain ⟨l, rfl⟩ := same_l sk
    obtain ⟨ys, ha, ra⟩ := at_ins t
    obtain ⟨y, rfl, hlen, rfl⟩ := mut_extend e
    obtain ⟨v, rfl, b, zs, rfl, hb, rb⟩ := rhl_one rp
    exact ⟨a, b, ys, zs, rfl, rfl, ha, hb, by rw [← SL_eq, ← ra.length, ← rb.length]; exact hlen, fin _ _ ⟨_, upd_same, ra.append rb⟩ rep_non⟩
  | _ => exact ff hk
end
end Lk

namespace Lk
open PySem L2 PySem.Spec PyProof.Rows
section
variable {cl : String → Option Addr} {X : Cx} {c : Kx} {k : Nat} {Wx : WX} {F : Fn} {p : Expr}
/-- the text of a method call -/
theorem pe_meth {po : Expr} {ps : List Expr} {x : Str} {apos cpos : Pos} {to : TE} {t : TA} (ho : PE X po to) (ha : PA X ps t) (h1 : noSup po = true) (h2 : apos.endLine = cpos.line) (h3 : noStL ps = true) (h4 : ps.length < 30) (hn : ps = [] → t = tNil) :
    PE X (.Call (.Attribute po x apos) ps [] cpos) (fun σ H Q => to σ H fun x' H1 => ∃ r, MKit X x x' H1 r ∧ t σ H1 fun xs H2 => r x' xs H2 Q) := by
  cases ps with
  | nil =>
    rw [hn rfl]
    exact pe_mk0 ho (base_of h1) (by simpa using h2)
  | cons e es =>
    have hs' : noSt e = true ∧ noStL es = true := by
      unfold noStL at h3 ⊢
      simpa using h3
    exact pe_mk ho ha (base_of h1) (star_few h3 h4) (by simpa using h2) (star_cons hs'.1) (star_any hs'.2)
/-- arguments as values; nothing for none -/
theorem SA.vals {es : XEs} (S : SA es) (g : Gd cl X c k Wx F) {ps : List Expr} (h1 : noStL ps = true) (h2 : chkA es c ps = true) (nd : NdA (gv cl X) k es) : ∃ t, PA X ps t ∧ (ps = [] → t = tNil) ∧ JG X.K cl Wx t (evA es F) (rLs X.K cl) := by
  cases ps with
  | nil =>
    have hes : es = .nil := by
      cases es with
      | nil => rfl
      | cons _ _ => exact ff h2
    subst hes
    refine ⟨tNil, pa_nil, fun _ => rfl, ?_⟩
    intro W0 H0 W s σ H Q out s' R h hok hx
    obtain ⟨rfl, rfl⟩ := rt_inj (show rt [] s = _ from h)
    exact hok _ rfl [] W H (.refl W) R (by show RepL X.K cl W [] []; unfold RepL; rfl)
  | cons e r =>
    obtain ⟨⟨t, pt, J⟩, _⟩ := S g h1 h2 nd
    exact ⟨t, pt, fun q => (by cases q), J⟩
theorem SA.plcs {es : XEs} (S : SA es) (g : Gd cl X c k Wx F) {ps : List Expr} (h1 : noStL ps = true) (h2 : chkA es c ps = true) (nd : NdA (gv cl X) k es) : ∃ t, PA X ps t ∧ (ps = [] → t = tNil) ∧ JG X.K cl Wx t (evL es F) (rPls X.K cl) := by
  cases ps with
  | nil =>
    have hes : es = .nil := by
      cases es with
      | nil => rfl
      | cons _ _ => exact ff h2
    subst hes
    refine ⟨tNil, pa_nil, fun _ => rfl, ?_⟩
    intro W0 H0 W s σ H Q out s' R h hok hx
    obtain ⟨rfl, rfl⟩ := rt_inj (show rt [] s = _ from h)
    exact hok _ rfl [] W H (.refl W) R True.intro
  | cons e r =>
    obtain ⟨_, ⟨t, pt, J⟩⟩ := S g h1 h2 nd
    exact ⟨t, pt, fun q => (by cases q), J⟩
theorem ite_some {α : Type} {b : Bool} {x : Option α} {r : α} (h : (if b = true then x else none) = some r) : b = true ∧ x = some r := by
  split at h
  · exact ⟨by assumption, h⟩
  · cases h
theorem sv_met {m : Met} {o : XE} {es : XEs} (So : SV o) (S : SA es) : SV (.met m o es) := fun {cl X c k Wx F p} g h nd => by
  cases p with
  | Call fe ps kws pos =>
    cases fe with
    | Attribute po x apos =>
      cases kws with
      | nil =>
        obtain ⟨h1, h2⟩ := and_t h
        obtain ⟨h2, h3⟩ := and_t h2
        obtain ⟨h3, h4⟩ := and_t h3
        obtain ⟨h4, h5⟩ := and_t h4
        obtain ⟨h5, h6⟩ := and_t h5
        obtain ⟨h6, h7⟩ := and_t h6
        cases (dec_t h1)
        obtain ⟨to, po', Jo⟩ := So.jp g h6 nd.1
        have args : ∀ (hm : m ≠ .join), ∃ te, PE X (.Call (.Attribute po (metN m) apos) ps [] pos) te ∧ JG X.K cl Wx te (fun s => bd (plc o (evR o F s) s) fun p s => op1 (s.look p) fun z => if metK m z then bd (evA es F s) fun vs s => op1 (s.look p) fun x => if sameK z x then op1 (metP m x vs) fun v => rt (v, false) s else none else none) (rRes X.K cl) := fun hm => by
          obtain ⟨t, pt, tn, J⟩ := S.vals g h4 h7 nd.2
          have hp := pe_meth (x := metN m) po' pt h2 (dec_t h3) h4 (dec_t h5) tn
          refine ⟨_, hp, ?_⟩
          intro W0 H0 W s σ H Q out s' R h hok hx
          refine Jo.go R h hx (fun pl s1 h1 x W1 H1 l1 R1 rp => ?_)
          obtain ⟨z, ez, h2⟩ := op1_cases h1
          obtain ⟨hk, h3⟩ := ite_some h2
          refine ⟨_, met_kit g.hu hm hk (look_ok R1 rp ez), ?_⟩
          refine J.go R1 h3 (hx_le l1 hx) (fun vs s2 h4 xs W2 H2 l2 R2 rq => ?_)
          obtain ⟨y, ey, h5⟩ := op1_cases h4
          obtain ⟨sk, h6⟩ := ite_some h5
          obtain ⟨v, ev, h7⟩ := op1_cases h6
          obtain ⟨rfl, rfl⟩ := rt_inj h7
          exact ⟨W2, y, vs, v, R2.rm.sub, look_ok R2 (PlR.mono l2 rp) ey, rq, sk, ev, fun w hw => hok _ rfl w W2 H2 (l1.trans l2) R2 (res_val hw)⟩
        cases m with
        | join =>
          obtain ⟨t, pt, tn, J⟩ := S.plcs g h4 h7 nd.2
          have hp := pe_meth (x := metN .join) po' pt h2 (dec_t h3) h4 (dec_t h5) tn
          refine ⟨_, hp, asg_of g hp rfl, ?_⟩
          intro W0 H0 W s σ H Q out s' R h hok hx
          refine Jo.go R h hx (fun pl s1 h1 x W1 H1 l1 R1 rp => ?_)
          obtain ⟨z, ez, h2⟩ := op1_cases h1
          obtain ⟨hk, h3⟩ := ite_some h2
          refine ⟨_, join_kit hk (look_ok R1 rp ez), ?_⟩
          refine J.go R1 h3 (hx_le l1 hx) (fun pls s2 h4 xs W2 H2 l2 R2 rq => ?_)
          obtain ⟨y, ey, h5⟩ := op1_cases h4
          obtain ⟨vs, evs, h5⟩ := op1_cases h5
          obtain ⟨sk, h6⟩ := ite_some h5
          obtain ⟨v, ev, h7⟩ := op1_cases h6
          obtain ⟨rfl, rfl⟩ := rt_inj h7
          exact ⟨W2, y, vs, v, R2.rm.sub, look_ok R2 (PlR.mono l2 rp) ey, lookL_ok R2 rq evs, sk, ev, fun w hw => hok _ rfl w W2 H2 (l1.trans l2) R2 (res_val hw)⟩
        | index =>
          obtain ⟨te, hp, J⟩ := args (by decide)
          exact ⟨te, hp, asg_of g hp rfl, J⟩
        | get =>
          obtain ⟨te, hp, J⟩ := args (by decide)
          exact ⟨te, hp, asg_of g hp rfl, J⟩
      | cons _ _ => exact ff h
    | _ => exact ff h
  | _ => exact ff h
theorem sv_mut {m : Mth} {o : XE} {es : XEs} (So : SV o) (S : SA es) : SV (.mut m o es) := fun {cl X c k Wx F p} g h nd => by
  cases p with
  | Call fe ps kws pos =>
    cases fe with
    | Attribute po x apos =>
      cases kws with
      | nil =>
        obtain ⟨h1, h2⟩ := and_t h
        obtain ⟨h2, h3⟩ := and_t h2
        obtain ⟨h3, h4⟩ := and_t h3
        obtain ⟨h4, h5⟩ := and_t h4
        obtain ⟨h5, h6⟩ := and_t h5
        obtain ⟨h6, h7⟩ := and_t h6
        cases (dec_t h1)
        obtain ⟨to, po', Jo⟩ := So.jp g h6 nd.1
        have args : ∀ (hm : m ≠ .extend), ∃ te, PE X (.Call (.Attribute po (mthN m) apos) ps [] pos) te ∧ JG X.K cl Wx te (fun s => bd (plc o (evR o F s) s) fun p s => op1 (s.look p) fun z => if mutK m z then bd (evA es F s) fun vs s => op1 (s.look p) fun x => if sameK z x then op1 (mutP m x vs) fun r => op1 (s.put p r.1) fun s => rt (r.2, false) s else none else none) (rRes X.K cl) := fun hm => by
          obtain ⟨t, pt, tn, J⟩ := S.vals g h4 h7 nd.2
          have hp := pe_meth (x := mthN m) po' pt h2 (dec_t h3) h4 (dec_t h5) tn
          refine ⟨_, hp, ?_⟩
          intro W0 H0 W s σ H Q out s' R h hok hx
          refine Jo.go R h hx (fun pl s1 h1 x W1 H1 l1 R1 rp => ?_)
          obtain ⟨z, ez, h2⟩ := op1_cases h1
          obtain ⟨hk, h3⟩ := ite_some h2
          refine ⟨_, mut_kit hm hk (look_ok R1 rp ez), ?_⟩
          refine J.go R1 h3 (hx_le l1 hx) (fun vs s2 h4 xs W2 H2 l2 R2 rq => ?_)
          obtain ⟨y, ey, h5⟩ := op1_cases h4
          obtain ⟨sk, h6⟩ := ite_some h5
          obtain ⟨r, er, h7⟩ := op1_cases h6
          obtain ⟨s3, es3, h8⟩ := op1_cases h7
          obtain ⟨rfl, rfl⟩ := rt_inj h8
          obtain ⟨a, ea, ta, put⟩ := put_ok R2 (PlR.mono l2 rp) ey es3
          exact ⟨W2, a, y, vs, r, R2.rm.sub, ea, ta, rq, sk, er, fun o w ho hw => hok _ rfl w W2 _ (l1.trans l2) (put o ho) (res_val hw)⟩
        have fin : m ≠ .extend → ∃ te, PE X (.Call (.Attribute po (mthN m) apos) ps [] pos) te ∧ AsgN X c (.Call (.Attribute po (mthN m) apos) ps [] pos) te ∧ JG X.K cl Wx te (evR (.mut m o es) F) (rRes X.K cl) := fun hm => by
          obtain ⟨te, hp, J⟩ := args hm
          refine ⟨te, hp, asg_of g hp rfl, ?_⟩
          cases m <;> first | exact J | exact absurd rfl hm
        by_cases hm : m = .extend
        · subst hm
          obtain ⟨t, pt, tn, J⟩ := S.plcs g h4 h7 nd.2
          have hp := pe_meth (x := mthN .extend) po' pt h2 (dec_t h3) h4 (dec_t h5) tn
          refine ⟨_, hp, asg_of g hp rfl, ?_⟩
          intro W0 H0 W s σ H Q out s' R h hok hx
          refine Jo.go R h hx (fun pl s1 h1 x W1 H1 l1 R1 rp => ?_)
          obtain ⟨z, ez, h2⟩ := op1_cases h1
          obtain ⟨hk, h3⟩ := ite_some h2
          refine ⟨_, ext_kit hk (look_ok R1 rp ez), ?_⟩
          refine J.go R1 h3 (hx_le l1 hx) (fun pls s2 h4 xs W2 H2 l2 R2 rq => ?_)
          obtain ⟨y, ey, h5⟩ := op1_cases h4
          obtain ⟨vs, evs, h5⟩ := op1_cases h5
          obtain ⟨sk, h6⟩ := ite_some h5
          obtain ⟨r, er, h7⟩ := op1_cases h6
          obtain ⟨s3, es3, h8⟩ := op1_cases h7
          obtain ⟨rfl, rfl⟩ := rt_inj h8
          obtain ⟨a, ea, ta, put⟩ := put_ok R2 (PlR.mono l2 rp) ey es3
          exact ⟨W2, a, y, vs, r, R2.rm.sub, ea, ta, lookL_ok R2 rq evs, sk, er, fun o w ho hw => hok _ rfl w W2 _ (l1.trans l2) (put o ho) (res_val hw)⟩
        · exact fin hm
      | cons _ _ => exact ff h
    | _ => exact ff h
  | _ => exact ff h
end
end Lk

namespace Lk
open PySem L2 PySem.Spec PyProof.Rows
theorem wipe_set {σ : L2.St} {i : Nat} {x : Option V} : ∀ {vs : List Nat}, wipe (σ.set i x) vs = if i ∈ vs then wipe σ vs else (wipe σ vs).set i x
  | [] => by simp [wipe]
  | v :: vs => by
    unfold wipe
    rw [wipe_set (vs := vs)]
    by_cases h : i ∈ vs
    · rw [if_pos h, if_pos (List.mem_cons_of_mem _ h)]
    · rw [if_neg h]
      by_cases e : i = v
      · subst e
        rw [if_pos List.mem_cons_self, List.set_set]
      · rw [if_neg (by simp [e, h]), List.set_comm _ _ e]
section
variable {cl : String → Option Addr} {X : Cx} {c : Kx} {k : Nat} {Wx : WX} {F : Fn} {p : Expr}
/-- a slot is set -/
theorem Rl.bind {K : PySem.W.Frag} {W0 W : Wd} {H0 H : Hp} {s : Sg} {σ : L2.St} {i : Nat} {q : PV} {v : V} (R : Rl K cl W0 H0 W s σ H) (hr : Rep K cl W q v) (hi : i < s.env.length) : Rl K cl W0 H0 W { s with env := s.env.set i (.val q) } (σ.set i (some v)) H := by
  have hi' : i < σ.length := by rw [← R.len]; exact hi
  refine ⟨R.rm, R.si, by simpa using R.len, fun j p h => ?_, fun j p h => ?_, fun j j' p p' a h1 h2 e1 e2 => ?_⟩
  · have h : (s.env.set i (.val q))[j]? = some (.val p) := h
    by_cases nj : j = i
    · subst nj
      rw [List.getElem?_set_self hi] at h; cases h
      exact ⟨v, List.getElem?_set_self hi', hr⟩
    · rw [List.getElem?_set_ne (Ne.symm nj)] at h ⊢
      exact R.val j p h
  · have h : (s.env.set i (.val q))[j]? = some (.own p) := h
    by_cases nj : j = i
    · subst nj
      rw [List.getElem?_set_self hi] at h; cases h
    · rw [List.getElem?_set_ne (Ne.symm nj)] at h ⊢
      exact R.own j p h
  · have h1 : (s.env.set i (.val q))[j]? = some (.own p) := h1
    have h2 : (s.env.set i (.val q))[j']? = some (.own p') := h2
    have nj : j ≠ i := fun e => by subst e; rw [List.getElem?_set_self hi] at h1; cases h1
    have nj' : j' ≠ i := fun e => by subst e; rw [List.getElem?_set_self hi] at h2; cases h2
    rw [List.getElem?_set_ne (Ne.symm nj)] at h1 e1
    rw [List.getElem?_set_ne (Ne.symm nj')] at h2 e2
    exact R.dist j j' p p' a h1 h2 e1 e2
/-- a target serves -/
def GOk (cl : String → Option Addr) (X : Cx) (t : XT) (g : TG) : Prop := ∀ (W0 : Wd) (H0 : Hp) (W : Wd) (s s' : Sg) (σ : L2.St) (H : Hp) (v : V) (q : PV) (Q : L2.St → Hp → Prop), Rl X.K cl W0 H0 W s σ H → Rep X.K cl W q v → bindT t q s = some s' →
  (∀ σ', Rl X.K cl W0 H0 W s' σ' H → (∀ vs, (∀ i ∈ tgIx t, i ∈ vs) → wipe σ' vs = wipe σ vs) → Q σ' H) → g v σ H Q
def GsOk (cl : String → Option Addr) (X : Cx) (t : XTs) (g : TGs) : Prop := ∀ (W0 : Wd) (H0 : Hp) (W : Wd) (s s' : Sg) (σ : L2.St) (H : Hp) (v : List V) (q : List PV) (Q : L2.St → Hp → Prop), Rl X.K cl W0 H0 W s σ H → RepL X.K cl W q v → bindTs t q s = some s' →
  (∀ σ', Rl X.K cl W0 H0 W s' σ' H → (∀ vs, (∀ i ∈ tgIxs t, i ∈ vs) → wipe σ' vs = wipe σ vs) → Q σ' H) → g v σ H Q
theorem asgE_cons {t : XT} {es : List Expr} {env : Env} (h : chkG t c p = true) : assignEach (p :: es) env = (false, assign p env) :: assignEach es env := by
  cases t with
  | name i => cases p <;> first | rfl | exact ff h
  | tup ts => cases p <;> first | rfl | exact ff h
theorem asgE_all : ∀ {ts : XTs} {ps : List Expr} {env : Env}, chkGs ts c ps = true → (assignEach ps env).findIdx? (·.1) = none
  | .nil, ps, env, h => by
    cases ps with
    | nil => rfl
    | cons _ _ => exact ff h
  | .cons t r, ps, env, h => by
    cases ps with
    | nil => exact ff h
    | cons p q =>
      obtain ⟨h1, h2⟩ := and_t h
      rw [asgE_cons h1]
      rw [List.findIdx?_cons]
      simp [asgE_all h2]
theorem bindTs_len : ∀ {ts : XTs} {ps : List Expr} {xs : List PV} {s s' : Sg} {env : Env}, chkGs ts c ps = true → bindTs ts xs s = some s' → (assignEach ps env).length = xs.length
  | .nil, ps, xs, s, s', env, h, hb => by
    cases ps with
    | nil =>
      cases xs with
      | nil => rfl
      | cons _ _ => cases hb
    | cons _ _ => exact ff h
  | .cons t r, ps, xs, s, s', env, h, hb => by
    cases ps with
    | nil => exact ff h
    | cons p q =>
      obtain ⟨h1, h2⟩ := and_t h
      cases xs with
      | nil => cases hb
      | cons x xs =>
        rw [asgE_cons h1]
        have hb : (match bindT t x s with
          | some s' => bindTs r xs s'
          | none => none) = some s' := hb
        split at hb
        · simp [bindTs_len (env := env) h2 hb]
        · cases hb
theorem pg_or {p : Expr} {g1 g2 : TG} (h1 : PG X p g1) (h2 : PG X p g2) : PG X p (fun v σ H Q => g1 v σ H Q ∨ g2 v σ H Q) :=
  ⟨fun pins s σ H v u Q I r h => h.elim (fun h => h1.run pins s σ H v u Q I r h) fun h => h2.run pins s σ H v u Q I r h⟩
mutual
theorem sg : ∀ (t : XT) {c : Kx} {p : Expr}, Gd cl X c k Wx F → chkG t c p = true → ∃ g, PG X p g ∧ GOk cl X t g
  | .name i, c, p, g, h => by
    cases p with
    | Name x pos =>
      obtain ⟨h1, h2⟩ := and_t h
      obtain ⟨l1, l2⟩ := g.loc h2
      refine ⟨_, pg_name g.nd (by rw [g.N]; exact dec_t h1) l1 l2, ?_⟩
      intro W0 H0 W s s' σ H v q Q R hr hb hq
      have hb : (if i < s.env.length then some { s with env := s.env.set i (.val q) } else none) = some s' := hb
      split at hb
      · rename_i hi
        cases hb
        exact hq _ (R.bind hr hi) fun vs hm => by rw [wipe_set, if_pos (hm i (by unfold tgIx; simp))]
      · cases hb
    | _ => exact ff h
  | .tup ts, c, p, g, h => by
    cases p with
    | Tuple ps kk pos =>
      obtain ⟨t, pt, ok⟩ := sgs ts g h
      refine ⟨_, pg_or (pg_tup (n := (assignEach ps X.env).length) g.calm pt rfl (asgE_all h)) (pg_lst (n := (assignEach ps X.env).length) g.calm pt rfl (asgE_all h)), ?_⟩
      intro W0 H0 W s s' σ H v q Q R hr hb hq
      cases q with
      | tup xs =>
        have hr' := hr
        unfold Rep at hr'
        obtain ⟨a, ys, ev, ea, rl⟩ := hr'
        refine .inl ⟨a, ys, ev, .inl (.inl (R.rm.sub _ _ ea)), ?_, ok W0 H0 W s s' σ H ys xs Q R rl hb hq⟩
        rw [← rl.length]; exact (bindTs_len h hb).symm
      | lst xs =>
        have hr' := hr
        unfold Rep at hr'
        obtain ⟨a, ys, ev, ea, rl⟩ := hr'
        refine .inr ⟨a, ys, ev, .inl (.inl (R.rm.sub _ _ ea)), ?_, ok W0 H0 W s s' σ H ys xs Q R rl hb hq⟩
        rw [← rl.length]; exact (bindTs_len h hb).symm
      | _ => cases hb
    | _ => exact ff h
theorem sgs : ∀ (ts : XTs) {c : Kx} {ps : List Expr}, Gd cl X c k Wx F → chkGs ts c ps = true → ∃ g, PGs X ps g ∧ GsOk cl X ts g
  | .nil, c, ps, g, h => by
    cases ps with
    | nil =>
      refine ⟨_, pgs_nil, ?_⟩
      intro W0 H0 W s s' σ H v q Q R hr hb hq
      cases q with
      | nil =>
        cases hb
        exact ⟨repl_zero hr, hq σ R fun _ _ => rfl⟩
      | cons _ _ => cases hb
    | cons _ _ => exact ff h
  | .cons t r, c, ps, g, h => by
    cases ps with
    | nil => exact ff h
    | cons p q =>
      obtain ⟨h1, h2⟩ := and_t h
      obtain ⟨g1, p1, o1⟩ := sg t g h1
      obtain ⟨g2, p2, o2⟩ := sgs r g h2
      refine ⟨_, pgs_cons p1 p2 (by rw [asgE_cons h1]; rfl), ?_⟩
      intro W0 H0 W s s' σ H v q Q R hr hb hq
      cases q with
      | nil => cases hb
      | cons x xs =>
        have hb : (match bindT t x s with
          | some s' => bindTs r xs s'
          | none => none) = some s' := hb
        split at hb
        · rename_i s1 hs1
          unfold RepL at hr
          obtain ⟨y, ys, rfl, r1, r2⟩ := hr
          refine ⟨y, ys, rfl, o1 W0 H0 W s s1 σ H y x _ R r1 hs1 fun σ1 R1 w1 => o2 W0 H0 W s1 s' σ1 H ys xs Q R1 r2 hb fun σ2 R2 w2 => hq σ2 R2 fun vs hm => ?_⟩
          have hm' : (∀ i ∈ tgIx t, i ∈ vs) ∧ ∀ i ∈ tgIxs r, i ∈ vs := by
            unfold tgIxs at hm
            exact ⟨fun i hi => hm i (List.mem_append_left _ hi), fun i hi => hm i (List.mem_append_right _ hi)⟩
          rw [w2 vs hm'.2, w1 vs hm'.1]
        · cases hb
end
end
end Lk

namespace Lk
open PySem L2 PySem.Spec PyProof.Rows
/-- anything that is walked item by item -/
def iAny (K : PySem.W.Frag) (td : TE) : TI := fun σ H R => td σ H fun x H1 => (∃ a xs, x = .ref a ∧ SqL K H1 a xs ∧ R (Itl K a) H1) ∨ (∃ a xs, x = .ref a ∧ SqT K H1 a xs ∧ R (Itt K a) H1) ∨ (∃ z, x = .str z ∧ R (Its z) H1) ∨
  ∃ d o kvs, x = .ref d ∧ H1 d = some (.frz o (.dK kvs)) ∧ R (Itk d o kvs) H1
theorem pi_any {X : Cx} {tg e : Expr} {te : TE} (he : PE X e te) : PI X tg e (iAny X.K te) := by
  refine ⟨fun pins s σ H R I h => ?_⟩
  refine thn (he.run pins s σ H _ I h) fun v s1 ⟨x, H1, I1, r1, q1⟩ => ?_
  rcases q1 with ⟨a, xs, ex, hq, q⟩ | ⟨a, xs, ex, hq, q⟩ | ⟨z, ex, q⟩ | ⟨d, o, kvs, ex, hd, q⟩
  · subst ex
    cases r1
    obtain ⟨its, rv, p, hz⟩ := I1.list hq
    refine wpAny_pyIter_list p.isList ?_
    refine ⟨s1.heap.objs.size, [s1.heap.objs.size], _, _, H1, rfl, I1.kept (t' := s1.toks) fun b o e => Heap.get?_push_of_some _ e, turn_list a _, ⟨_, Heap.get?_push_size _ rfl, rfl, rfl⟩, fun b hb => ?_, q⟩
    have e : b = s1.heap.objs.size := by simpa using hb
    subst e
    exact I1.fpOk (Nat.le_refl _) (I1.hok.fresh (Nat.le_refl _))
  · subst ex
    cases r1
    obtain ⟨its, rv, p, hz⟩ := I1.tuple hq
    refine wpAny_pyIter_tuple (show s1.heap.IsTuple a its.toArray from p) ?_
    refine ⟨s1.heap.objs.size, [s1.heap.objs.size], _, _, H1, rfl, I1.kept (t' := s1.toks) fun b o e => Heap.get?_push_of_some _ e, turn_tuple a _, ⟨_, Heap.get?_push_size _ rfl, rfl, rfl⟩, fun b hb => ?_, q⟩
    have e : b = s1.heap.objs.size := by simpa using hb
    subst e
    exact I1.fpOk (Nat.le_refl _) (I1.hok.fresh (Nat.le_refl _))
  · subst ex
    obtain ⟨t, rfl⟩ := r1
    cases ha : z.cps.all (· < 128)
    · exact wpAny_pyIter_wide ha (pi_one (tk := s1.toks) I1 _ (turn_str _ z t "str_iterator" (.inr rfl)) ⟨_, Heap.get?_push_size _ rfl, rfl, rfl⟩ q)
    · exact wpAny_pyIter_ascii ha (pi_one (tk := s1.toks) I1 _ (turn_str _ z t "str_ascii_iterator" (.inl rfl)) ⟨_, Heap.get?_push_size _ rfl, rfl, rfl⟩ q)
  · subst ex
    obtain rfl : v = Value.ref d := r1
    obtain ⟨hs, hgd, hx, es, ep, vs, hdt, hsz, kv, hm⟩ := I1.frzK hd
    refine iter_keys hs hgd hx hdt (pi_one (tk := s1.toks) I1 _ (turn_keys _ hdt) ⟨_, Heap.get?_push_size _ rfl, rfl, ?_⟩ q)
    rw [hsz] <;> rfl
/-- what a walk gives -/
def WalkP (K : PySem.W.Frag) (cl : String → Option Addr) (W : Wd) (J : It) (xs : List PV) : Prop := ∃ G Y, Walk J xs.length G Y ∧ (∀ W' H, W.le W' → Sub W' H → G H) ∧
  ∀ i H x H', i < xs.length → Y i H x H' → ∀ W', W.le W' → Sub W' H → ∃ p, xs[i]? = some p ∧ New K cl W' H H' x (p, false)
def rIt (K : PySem.W.Frag) (cl : String → Option Addr) : RR (List PV) It := fun _ _ W _ _ _ J xs => WalkP K cl W J xs
section
variable {K : PySem.W.Frag} {cl : String → Option Addr} {W : Wd}
theorem getL {α : Type} {xs : List α} {i : Nat} (h : i < xs.length) : ∃ x, xs[i]? = some x := ⟨xs[i], by simp [h]⟩
theorem wp_list {ps : List PV} {xs : List V} {a : Addr} (e : W.F a = some (.lst xs)) (r : RepL K cl W ps xs) : WalkP K cl W (Itl K a) ps := by
  refine ⟨fun H => SqL K H a xs, YAt xs, by rw [r.length]; exact walk_list, fun W' H l s => .inl (.inl (s _ _ (l.1 _ _ e))), fun i H x H' hi y W' l s => ?_⟩
  obtain ⟨rfl, y⟩ := y
  obtain ⟨p, hp⟩ := getL hi
  obtain ⟨x', ex, rx⟩ := r.get hp
  rw [y] at ex; cases ex
  exact ⟨p, hp, .inl ⟨rfl, rfl, rx.mono l⟩⟩
theorem wp_tup {ps : List PV} {xs : List V} {a : Addr} (e : SqT K W.F a xs) (r : RepL K cl W ps xs) : WalkP K cl W (Itt K a) ps := by
  refine ⟨_, _, by rw [r.length]; exact walk_tup, fun W' H l s => sqt_mono (fun a o h => s _ _ (l.1 _ _ h)) e, fun i H x H' hi y W' l s => ?_⟩
  obtain ⟨rfl, y⟩ := y
  obtain ⟨p, hp⟩ := getL hi
  obtain ⟨x', ex, rx⟩ := r.get hp
  rw [y] at ex; cases ex
  exact ⟨p, hp, .inl ⟨rfl, rfl, rx.mono l⟩⟩
theorem wp_str {z : List Nat} : WalkP K cl W (Its ⟨z.toArray⟩) (z.map fun c => .str [c]) := by
  refine ⟨_, _, by rw [List.length_map]; exact walk_str (z := ⟨z.toArray⟩), fun _ _ _ _ => True.intro, fun i H x H' hi y W' l s => ?_⟩
  obtain ⟨rfl, c, hc, rfl⟩ := y
  have hc' : z[i]? = some c := by simpa using hc
  exact ⟨.str [c], by simp [hc'], new_str (i := [c])⟩
theorem repK_at : ∀ {kvs : List (DKey × PV)} {l : List (Key × V)} {i : Nat} {k : Key} {v : V}, RepK K cl W kvs l → l[i]? = some (k, v) → ∃ p, kvs[i]? = some (.inl k, p) ∧ Rep K cl W p v
  | [], l, i, k, v, h, e => by unfold RepK at h; subst h; simp at e
  | (k0, p) :: r, l, i, k, v, h, e => by
    unfold RepK at h
    obtain ⟨k', x, t, rfl, e1, e2, e3⟩ := h
    cases i with
    | zero =>
      simp at e
      obtain ⟨rfl, rfl⟩ := e
      subst e1
      exact ⟨p, by simp, e2⟩
    | succ i =>
      obtain ⟨q, h1, h2⟩ := repK_at (i := i) e3 (by simpa using e)
      exact ⟨q, by simpa using h1, h2⟩
theorem rep_key {k : Key} : Rep K cl W (pvK k) (kV k) := by
  cases k with
  | inl i => unfold pvK Rep; rfl
  | inr s =>
    show Rep K cl W (.str s.cps.toList) (.str s)
    unfold Rep
    simp
theorem wp_keys {kvs : List (DKey × PV)} {l : List (Key × V)} {d : Addr} {o : Obj} (e : W.F d = some (.frz o (.dK l))) (r : RepK K cl W kvs l) : WalkP K cl W (Itk d o l) (kvs.map fun e => pvD e.1) := by
  refine ⟨_, _, by rw [List.length_map, repK_len r]; exact walk_keys, fun W' H l s => s _ _ (l.1 _ _ e), fun i H x H' hi y W' l s => ?_⟩
  obtain ⟨rfl, k, v, hk, rfl⟩ := y
  obtain ⟨p, h1, h2⟩ := repK_at r hk
  exact ⟨pvK k, by simp [h1, pvD], .inl ⟨rfl, rfl, rep_key⟩⟩
theorem wp_values {kvs : List (DKey × PV)} {l : List (Key × V)} {d : Addr} {o : Obj} (e : W.F d = some (.frz o (.dK l))) (r : RepK K cl W kvs l) : WalkP K cl W (Itd d o l) (kvs.map fun e => e.2) := by
  refine ⟨_, _, by rw [List.length_map, repK_len r]; exact walk_values, fun W' H l s => s _ _ (l.1 _ _ e), fun i H x H' hi y W' l s => ?_⟩
  obtain ⟨rfl, k, hk⟩ := y
  obtain ⟨p, h1, h2⟩ := repK_at r hk
  exact ⟨p, by simp [h1], .inl ⟨rfl, rfl, h2.mono l⟩⟩
/-- a new pair -/
theorem new_pair {H : Hp} {T : Addr} {x y : V} {p q : PV} (hn : H T = none) (h1 : Rep K cl W p x) (h2 : Rep K cl W q y) : New K cl W H (upd H T (.tup [x, y])) (.ref T) (.tup [p, q], false) :=
  .inr ⟨T, _, rfl, hn, rfl, ⟨_, rfl, RepL.cons h1 (RepL.cons h2 RepL.nil)⟩, .inr ⟨rfl, rfl⟩⟩
theorem wp_items {kvs : List (DKey × PV)} {l : List (Key × V)} {d : Addr} {o : Obj} (e : W.F d = some (.frz o (.dK l))) (r : RepK K cl W kvs l) : WalkP K cl W (Iti d o l) (kvs.map fun p => .tup [pvD p.1, p.2]) := by
  refine ⟨_, _, by rw [List.length_map, repK_len r]; exact walk_items, fun W' H l s => s _ _ (l.1 _ _ e), fun i H x H' hi y W' le s => ?_⟩
  obtain ⟨T, x, y, rfl, hn, rfl, h1, h2⟩ := y
  have h1 : (l[i]?.map fun kv => kV kv.1) = some x := h1
  have h2 : l[i]?.map Prod.snd = some y := h2
  cases hk : l[i]? with
  | none => rw [hk] at h1; cases h1
  | some kv =>
    obtain ⟨k, v⟩ := kv
    rw [hk] at h1 h2
    simp at h1 h2
    subst h1 h2
    obtain ⟨p, g1, g2⟩ := repK_at r hk
    exact ⟨.tup [pvK k, p], by simp [g1, pvD], new_pair hn rep_key (g2.mono le)⟩
theorem wp_range {a b : Int} : WalkP K cl W (Itr a (b - a).toNat) (rangeP a b) := by
  refine ⟨_, _, by unfold rangeP; rw [List.length_map, List.length_range]; exact walk_range, fun _ _ _ _ => True.intro, fun i H x H' hi y W' l s => ?_⟩
  obtain ⟨rfl, rfl⟩ := y
  unfold rangeP at hi ⊢
  rw [List.length_map, List.length_range] at hi
  exact ⟨.int (a + (i : Nat)), by simp [hi], new_int⟩
theorem wp_enum {ps : List PV} {xs : List V} {a : Addr} (e : W.F a = some (.lst xs)) (r : RepL K cl W ps xs) : WalkP K cl W (Ite K a) (ps.zipIdx.map fun p => .tup [.int (p.2 : Nat), p.1]) := by
  refine ⟨fun H => SqL K H a xs, _, by rw [List.length_map, List.length_zipIdx, r.length]; exact walk_enum, fun W' H l s => .inl (.inl (s _ _ (l.1 _ _ e))), fun i H x H' hi y W' l s => ?_⟩
  obtain ⟨T, x, y, rfl, hn, rfl, h1, h2⟩ := y
  rw [List.length_map, List.length_zipIdx] at hi
  have h2 : xs[i]? = some y := h2
  obtain ⟨p, hp⟩ := getL hi
  obtain ⟨x', ex, rx⟩ := r.get hp
  rw [h2] at ex; cases ex
  cases h1
  exact ⟨.tup [.int (i : Nat), p], by simp [List.getElem?_zipIdx, hp], new_pair hn (by unfold Rep; rfl) (rx.mono l)⟩
theorem zip_at {α β : Type} {xs : List α} {ys : List β} {i : Nat} {x : α} {y : β} (h1 : xs[i]? = some x) (h2 : ys[i]? = some y) : (xs.zip ys)[i]? = some (x, y) := by
  rw [List.getElem?_zip_eq_some]; exact ⟨h1, h2⟩
theorem wp_zip {ps qs : List PV} {xs ys : List V} {a b : Addr} (e : W.F a = some (.lst xs)) (r : RepL K cl W ps xs) (e' : W.F b = some (.lst ys)) (r' : RepL K cl W qs ys) : WalkP K cl W (Itz K a b) ((ps.zip qs).map fun p => .tup [p.1, p.2]) := by
  refine ⟨fun H => SqL K H a xs ∧ SqL K H b ys, _, by rw [List.length_map, List.length_zip, r.length, r'.length]; exact walk_zip rfl, fun W' H l s => ⟨.inl (.inl (s _ _ (l.1 _ _ e))), .inl (.inl (s _ _ (l.1 _ _ e')))⟩, fun i H x H' hi y W' l s => ?_⟩
  obtain ⟨T, x, y, rfl, hn, rfl, h1, h2⟩ := y
  rw [List.length_map, List.length_zip] at hi
  have h1 : xs[i]? = some x := h1
  have h2 : ys[i]? = some y := h2
  obtain ⟨p, hp⟩ := getL (xs := ps) (i := i) (by omega)
  obtain ⟨q, hq⟩ := getL (xs := qs) (i := i) (by omega)
  obtain ⟨x', ex, rx⟩ := r.get hp
  obtain ⟨y', ey, ry⟩ := r'.get hq
  rw [h1] at ex; cases ex
  rw [h2] at ey; cases ey
  exact ⟨.tup [p, q], by simp [zip_at hp hq], new_pair hn (rx.mono l) (ry.mono l)⟩
theorem walk_zipT {a b : Addr} {xs ys : List V} {n : Nat} (hn : n = min xs.length ys.length) : Walk (RZ.ItzT K a b) n (fun H => SqT K H a xs ∧ SqT K H b ys) (YPair (fun i => xs[i]?) (fun i => ys[i]?)) := by
  subst hn
  refine ⟨fun i _ hi q => ?_, fun _ q => ⟨xs, ys, q.1, q.2, by omega⟩, fun i H v H' _ q y => ?_⟩
  · have h1 : i < xs.length := by omega
    have h2 : i < ys.length := by omega
    exact ⟨xs, ys, xs[i], ys[i], q.1, q.2, by simp [h1], by simp [h2]⟩
  · obtain ⟨T, x, z, h1, h2, h3, h4, h5⟩ := y
    exact ⟨T, x, z, h1, h2, h3, h4 xs q.1, h5 ys q.2⟩
theorem wp_zipT {ps qs : List PV} {xs ys : List V} {a b : Addr} (e : SqT K W.F a xs) (r : RepL K cl W ps xs) (e' : SqT K W.F b ys) (r' : RepL K cl W qs ys) : WalkP K cl W (RZ.ItzT K a b) ((ps.zip qs).map fun p => .tup [p.1, p.2]) := by
  refine ⟨fun H => SqT K H a xs ∧ SqT K H b ys, _, by rw [List.length_map, List.length_zip, r.length, r'.length]; exact walk_zipT rfl, fun W' H l s => ⟨sqt_mono (fun a o h => s _ _ (l.1 _ _ h)) e, sqt_mono (fun a o h => s _ _ (l.1 _ _ h)) e'⟩, fun i H x H' hi y W' l s => ?_⟩
  obtain ⟨T, x, y, rfl, hn, rfl, h1, h2⟩ := y
  rw [List.length_map, List.length_zip] at hi
  have h1 : xs[i]? = some x := h1
  have h2 : ys[i]? = some y := h2
  obtain ⟨p, hp⟩ := getL (xs := ps) (i := i) (by omega)
  obtain ⟨q, hq⟩ := getL (xs := qs) (i := i) (by omega)
  obtain ⟨x', ex, rx⟩ := r.get hp
  obtain ⟨y', ey, ry⟩ := r'.get hq
  rw [h1] at ex; cases ex
  rw [h2] at ey; cases ey
  exact ⟨.tup [p, q], by simp [zip_at hp hq], new_pair hn (rx.mono l) (ry.mono l)⟩
end
end Lk

namespace Lk
open PySem PySem.Spec PyProof.Rows
/-- a walker: where it stands, what it walks -/
structure Wkr (prog : Program) (w : World) where
  at_ : Heap → Addr → Nat → Prop
  src : List Addr
  ok : Heap → Prop
  item : Nat → Value → Prop
  n : Nat
  rec_ : ∀ {h it i}, at_ h it i → ∃ o vs, h.get? it = some o ∧ o.data = .fields vs ∧ o.cls ≠ .type "enumerate" ∧ o.cls ≠ .type "zip"
  keep : ∀ {h h' it i}, at_ h it i → (∀ o, h.get? it = some o → h'.get? it = some o) → at_ h' it i
  skeep : ∀ {h h'}, ok h → (∀ a ∈ src, ∀ o, h.get? a = some o → h'.get? a = some o) → ok h'
  next : ∀ {A : Around} {E : Value → Shared → Prop} {s : Shared} {it : Addr} {i : Nat} {Q : Value → Shared → Prop}, at_ s.heap it i → ok s.heap → i < n → (∀ h' u tk, item i u → at_ h' it (i + 1) → Heap.SameBut it s.heap h' → Q u { s with heap := h', toks := tk }) →
    wpAny (model prog w) A (Builtin.SmallTypes.nextOf (.ref it)) Q E s
  stop : ∀ {A : Around} {E : Value → Shared → Prop} {s : Shared} {it : Addr} {i : Nat} {Q : Value → Shared → Prop}, A.handled = none → at_ s.heap it i → ok s.heap → n ≤ i →
    (∀ h' e, Heap.ExtBut it s.heap h' → (∃ o, h'.get? e = some o ∧ o.cls = .type "StopIteration") → E (.ref e) { s with heap := h' }) → wpAny (model prog w) A (Builtin.SmallTypes.nextOf (.ref it)) Q E s
section
variable {prog : Program} {w : World}
def wkT (a : Addr) (items : Array Value) : Wkr prog w where
  at_ := fun h it i => h.IsTupleIter it a i
  src := [a]
  ok := fun h => h.IsTuple a items
  item := fun i u => items[i]? = some u
  n := items.size
  rec_ := fun ⟨o, e, c, d⟩ => ⟨o, _, e, d, by rw [c]; simp, by rw [c]; simp⟩
  keep := fun h k => h.at fun o e => k o e
  skeep := fun ⟨o, e, r⟩ k => ⟨o, k a (by simp) o e, r⟩
  next := fun h1 h2 hi q => wpAny_nextOf_tuple_item h1 h2 (Array.getElem?_eq_getElem hi) fun h' a b => q h' _ _ (Array.getElem?_eq_getElem hi) a b
  stop := fun hh h1 h2 hi q => wpAny_nextOf_tuple_end hh h1 h2 (Array.getElem?_eq_none hi) q
def wkS (x : Str) (t : Tok) : Wkr prog w where
  at_ := fun h it i => h.IsStrIter it (strIterType x) x t i
  src := []
  ok := fun _ => True
  item := fun i u => ∃ c tk, x.cps[i]? = some c ∧ u = .str ⟨#[c]⟩ tk
  n := x.cps.size
  rec_ := fun ⟨o, e, c, d⟩ => ⟨o, _, e, d, by rw [c]; unfold strIterType; split <;> simp, by rw [c]; unfold strIterType; split <;> simp⟩
  keep := fun ⟨o, e, r⟩ k => ⟨o, k o e, r⟩
  skeep := fun h _ => h
  next := fun {A E s it i Q} h1 h2 hi q => by
    have hx : x.cps[i]? = some x.cps[i] := Array.getElem?_eq_getElem hi
    cases ha : x.cps.all (· < 128) with
    | true =>
      have ty : strIterType x = "str_ascii_iterator" := by unfold strIterType; rw [ha]; rfl
      rw [ty] at h1 q
      exact wpAny_nextOf_ascii_item h1 hx fun h' a b => q h' _ _ ⟨_, _, hx, rfl⟩ a b
    | false =>
      have ty : strIterType x = "str_iterator" := by unfold strIterType; rw [ha]; rfl
      rw [ty] at h1 q
      exact wpAny_nextOf_wide_item h1 hx fun h' a b => q h' _ _ ⟨_, _, hx, rfl⟩ a b
  stop := fun {A E s it i Q} hh h1 h2 hi q => by
    have hx : x.cps[i]? = none := Array.getElem?_eq_none hi
    cases ha : x.cps.all (· < 128) with
    | true =>
      have ty : strIterType x = "str_ascii_iterator" := by unfold strIterType; rw [ha]; rfl
      rw [ty] at h1
      exact wpAny_nextOf_ascii_end hh h1 hx q
    | false =>
      have ty : strIterType x = "str_iterator" := by unfold strIterType; rw [ha]; rfl
      rw [ty] at h1
      exact wpAny_nextOf_wide_end hh h1 hx q
variable {A : Around} {E : Value → Shared → Prop} {s : Shared}
theorem Wkr.same (k : Wkr prog w) {h h' : Heap} {b it : Addr} {i : Nat} (x : k.at_ h it i) (e : Heap.ExtBut b h h') (n : it ≠ b) : k.at_ h' it i := k.keep x fun o q => e _ _ n q
/-- an enumerate's turn -/
theorem enum_item (k : Wkr prog w) {e it : Addr} {i : Nat} {old : Value} {Q : Value → Shared → Prop} (he : IsEnum s.heap e it i old) (hit : k.at_ s.heap it i) (hok : k.ok s.heap) (hi : i < k.n) (hne : e ≠ it)
    (hQ : ∀ h' u tk tk2, k.item i u → IsEnumOut h' e it ((i : Int) + 1) u s.heap.objs.size → k.at_ h' it (i + 1) → h'.get? s.heap.objs.size = some { cls := .type "tuple", data := .seq #[.int i tk2, u] } → h'.objs.size = s.heap.objs.size + 1 →
      (∀ b o, b ≠ e → b ≠ it → s.heap.get? b = some o → h'.get? b = some o) → Q (.ref s.heap.objs.size) { s with heap := h', toks := tk }) :
    wpAny (model prog w) A (Builtin.«enumerate.__next__» ⟨[.ref e], []⟩) (fun fin s' => ∃ v, fin = .done (.ret v) ∧ Q v s') E s := by
  obtain ⟨hp, g, d, tk, os⟩ := s
  refine (show wpAny _ _ (field (.ref e) 2 >>= _) _ _ _ from wpAny_bind (wpAny_field he rfl (x := .ref it) rfl (wpAny_bind (k.next hit hok hi fun h1 x t1 hx hit1 sb1 => ?_))))
  replace sb1 : Heap.SameBut it hp h1 := sb1
  have he1 : IsEnum h1 e it i old := (sb1.2 e hne).trans he
  refine (show wpAny _ _ (field (.ref e) 3 >>= _) _ _ ⟨h1, g, d, t1, os⟩ from wpAny_bind (wpAny_field he1 rfl (x := rawInt i) rfl ?_))
  refine (show wpAny _ _ (field (.ref e) 4 >>= _) _ _ ⟨h1, g, d, t1, os⟩ from wpAny_bind (wpAny_field he1 rfl (x := .none) rfl ?_))
  refine (show wpAny _ _ (mkInt i >>= _) _ _ ⟨h1, g, d, t1, os⟩ from wpAny_bind (wpAny_mkInt ?_))
  refine (show wpAny _ _ (setField (.ref e) 3 (rawInt ((i : Int) + 1)) >>= _) _ _ ⟨h1, g, d, t1 + 1, os⟩ from wpAny_bind (wpAny_setField_rec he1 (by simp) fun h2 he2 sb2 => ?_))
  replace sb2 : Heap.SameBut e h1 h2 := sb2
  replace he2 : IsEnum h2 e it ((i : Int) + 1) old := he2
  refine (show wpAny _ _ (setField (.ref e) 4 .none >>= _) _ _ ⟨h2, g, d, t1 + 1, os⟩ from wpAny_bind (wpAny_setField_rec he2 (by simp) fun h3 he3 sb3 => ?_))
  replace sb3 : Heap.SameBut e h2 h3 := sb3
  replace he3 : IsEnum h3 e it ((i : Int) + 1) old := he3
  refine (show wpAny _ _ (newTuple [.int i t1, x] >>= _) _ _ ⟨h3, g, d, t1 + 1, os⟩ from wpAny_bind (wpAny_newTuple ?_))
  have hsz : h3.objs.size = hp.objs.size := by rw [sb3.1, sb2.1, sb1.1]
  have hel : e < hp.objs.size := Heap.lt_size he
  have e4 : IsEnum (h3.push { cls := .type "tuple", data := .seq #[.int i t1, x] }) e it ((i : Int) + 1) old := Heap.get?_push_of_some _ he3
  have p4 : (h3.push { cls := .type "tuple", data := .seq #[.int i t1, x] }).get? hp.objs.size = some { cls := .type "tuple", data := .seq #[.int i t1, x] } := by rw [← hsz]; exact Heap.get?_push_size _ rfl
  have z4 : (h3.push { cls := .type "tuple", data := .seq #[.int i t1, x] }).objs.size = hp.objs.size + 1 := by rw [Heap.size_push, hsz]
  have k4 : ∀ b o, b ≠ e → b ≠ it → hp.get? b = some o → (h3.push { cls := .type "tuple", data := .seq #[.int i t1, x] }).get? b = some o := fun b o nb ni q =>
    Heap.get?_push_of_some _ (sb3.extBut b o nb (sb2.extBut b o nb (sb1.extBut b o ni q)))
  have i4 : k.at_ (h3.push { cls := .type "tuple", data := .seq #[.int i t1, x] }) it (i + 1) := k.keep (k.same (k.same hit1 sb2.extBut (Ne.symm hne)) sb3.extBut (Ne.symm hne)) fun o q => Heap.get?_push_of_some _ q
  generalize (h3.push { cls := .type "tuple", data := .seq #[.int i t1, x] }) = h4 at e4 p4 z4 k4 i4
  refine (show wpAny _ _ (Builtin.SmallTypes.ownedTupleIsFree (.ref e) >>= _) _ _ ⟨h4, g, d, t1 + 1, os⟩ from wpAny_bind ?_)
  rw [hsz]
  clear he3 sb3 he2 sb2 he1 sb1 hit1 hsz h3 h2 h1
  unfold Builtin.SmallTypes.ownedTupleIsFree
  refine wpAny_bind (wpAny_field e4 rfl (x := .none) rfl (wpAny_pure ?_))
  simp only [if_true]
  refine wpAny_bind (wpAny_rule (wpAny_bind (wpAny_field e4 rfl (x := old) rfl (wpAny_bind (wpAny_setField_rec e4 (by simp) fun h5 e5 s5 => ?_)))))
  replace s5 : Heap.SameBut e h4 h5 := s5
  replace e5 : IsEnum h5 e it ((i : Int) + 1) x := e5
  refine (show wpAny _ _ (Builtin.SmallTypes.ownedTupleHandOut (.ref e) (.ref hp.objs.size) >>= _) _ _ ⟨h5, g, d, t1 + 1, os⟩ from wpAny_bind ?_)
  unfold Builtin.SmallTypes.ownedTupleHandOut
  refine wpAny_bind (wpAny_setField_rec e5 (by simp) fun h6 e6 s6 => ?_)
  replace s6 : Heap.SameBut e h5 h6 := s6
  replace e6 : IsEnumOut h6 e it ((i : Int) + 1) x hp.objs.size := e6
  refine wpAny_setField_rec e6 (by simp) fun h7 e7 s7 => ?_
  replace s7 : Heap.SameBut e h6 h7 := s7
  replace e7 : IsEnumOut h7 e it ((i : Int) + 1) x hp.objs.size := e7
  refine wpAny_bind (wpAny_letGo (wpAny_pure ⟨_, rfl, hQ h7 x (t1 + 1) t1 hx e7 ?_ ?_ ?_ ?_⟩))
  · exact k.same (k.same (k.same i4 s5.extBut (Ne.symm hne)) s6.extBut (Ne.symm hne)) s7.extBut (Ne.symm hne)
  · exact s7.extBut _ _ (Nat.ne_of_gt hel) (s6.extBut _ _ (Nat.ne_of_gt hel) (s5.extBut _ _ (Nat.ne_of_gt hel) p4))
  · rw [s7.1, s6.1, s5.1, z4]
  · exact fun b o nb ni q => s7.extBut b o nb (s6.extBut b o nb (s5.extBut b o nb (k4 b o nb ni q)))
theorem pyNext_enum (k : Wkr prog w) {e it : Addr} {i : Nat} {old : Value} {Q : Option Value → Shared → Prop} (he : IsEnum s.heap e it i old) (hit : k.at_ s.heap it i) (hok : k.ok s.heap) (hi : i < k.n) (hne : e ≠ it)
    (hQ : ∀ h' u tk tk2, k.item i u → IsEnumOut h' e it ((i : Int) + 1) u s.heap.objs.size → k.at_ h' it (i + 1) → h'.get? s.heap.objs.size = some { cls := .type "tuple", data := .seq #[.int i tk2, u] } → h'.objs.size = s.heap.objs.size + 1 →
      (∀ b o, b ≠ e → b ≠ it → s.heap.get? b = some o → h'.get? b = some o) → Q (some (.ref s.heap.objs.size)) { s with heap := h', toks := tk }) : wpAny (model prog w) A (pyNext (.ref e)) Q E s := by
  have hT : s.TypeIs (.ref e) "enumerate" := ⟨_, he, rfl⟩
  unfold pyNext
  exact wpAny_bind (wpAny_attempt (wpAny_callSpecial?_slot (name := Str.ofString "__next__") hT F.slot_enumerate_next (wpAny_call_entry F.slot_enumerate_next hT F.entry_enumerate_next
    (enum_item k he hit hok hi hne fun h' u a b c1 c2 c3 c4 c5 c6 => wpAny_pure (hQ h' u a b c1 c2 c3 c4 c5 c6)) (F.args_enumerate_next_1 _))))
theorem pyNext_enum_end (k : Wkr prog w) {e it : Addr} {i : Nat} {old : Value} {Q : Option Value → Shared → Prop} (hh : A.handled = none) (he : IsEnum s.heap e it i old) (hit : k.at_ s.heap it i) (hok : k.ok s.heap) (hi : k.n ≤ i)
    (hQ : ∀ h', Heap.ExtBut it s.heap h' → Q none { s with heap := h' }) : wpAny (model prog w) A (pyNext (.ref e)) Q E s := by
  have hT : s.TypeIs (.ref e) "enumerate" := ⟨_, he, rfl⟩
  unfold pyNext
  refine wpAny_bind (wpAny_attempt (wpAny_callSpecial?_slot (name := Str.ofString "__next__") hT F.slot_enumerate_next (wpAny_call_entry F.slot_enumerate_next hT F.entry_enumerate_next ?_ (F.args_enumerate_next_1 _))))
  refine (show wpAny _ _ (field (.ref e) 2 >>= _) _ _ _ from wpAny_bind (wpAny_field he rfl (x := .ref it) rfl (wpAny_bind (k.stop hh hit hok hi fun h' x he' hx' => ?_))))
  obtain ⟨o, ho, hc⟩ := hx'
  exact wpAny_bind (wpAny_isInstance (T := "StopIteration") (b := true) ⟨o, ho, hc⟩ isSubtype_stop (wpAny_pure (hQ _ he')))
/-- enumerate(a tuple) is made -/
theorem meets_enumT (l : Addr) (items : Array Value) :
    Meets (Builtin.«enumerate.__new__» ⟨[.type "enumerate", .ref l], []⟩) (fun _ R s => s.heap.IsTuple l items ∧
      R (.ok (.ret (.ref (s.heap.push { cls := .type "tuple_iterator", data := .fields #[.ref l, .int 0 0] }).objs.size)))
        { s with heap := (s.heap.push { cls := .type "tuple_iterator", data := .fields #[.ref l, .int 0 0] }).push { cls := .type "enumerate", data := .fields #[.none, .bool false, .ref s.heap.objs.size, rawInt 0, .none, .none] } }) :=
  .of_wp fun prog w A R s h => by
    obtain ⟨hp, g, d, tk, os⟩ := s
    obtain ⟨hl, h⟩ := h
    have hsub := sub_enumerate
    have hL : Heap.IsTuple (Shared.heap ⟨hp, g, d, tk, os⟩) l items := hl
    obtain ⟨ol, hol, hcl, _, hdl⟩ := id hL
    wp_walk using AutoSeq1.wpAny_loadPart' hol
    refine wpAny_stack_any fun st => wpAny_pure ?_
    split
    · rename_i c _ _ _ _ _
      cases (c == Value.type "enumerate")
      · wp_walk using AutoSeq1.wpAny_loadPart' hol, wpAny_pyIter_tuple hL
        exact ⟨_, rfl, h⟩
      · wp_walk using AutoSeq1.wpAny_loadPart' hol, wpAny_pyIter_tuple hL
        exact ⟨_, rfl, h⟩
    · wp_walk using AutoSeq1.wpAny_loadPart' hol, wpAny_pyIter_tuple hL
      exact ⟨_, rfl, h⟩
theorem call_enumT {l : Addr} {items : Array Value} {Q : Value → Shared → Prop} (hL : s.heap.IsTuple l items)
    (h : ∀ h', IsEnum h' (s.heap.objs.size + 1) s.heap.objs.size 0 .none → h'.IsTupleIter s.heap.objs.size l 0 → h'.objs.size = s.heap.objs.size + 2 → (∀ b o, s.heap.get? b = some o → h'.get? b = some o) → Q (.ref (s.heap.objs.size + 1)) { s with heap := h' }) :
    wpAny (model prog w) A (call (.type "enumerate") [.ref l]) Q E s := by
  refine callType_new F.called_enumerate (by decide) (F.typeCall_enumerate_1 _) (F.newCall_enumerate_1 _) (fun obj => F.args_object_init_2 obj _) F.entry_enumerate_new (meets_enumT l items) ⟨hL, ?_⟩
  have z1 : (s.heap.push { cls := .type "tuple_iterator", data := .fields #[.ref l, .int 0 0] }).objs.size = s.heap.objs.size + 1 := Heap.size_push ..
  have g2 : ((s.heap.push { cls := .type "tuple_iterator", data := .fields #[.ref l, .int 0 0] }).push { cls := .type "enumerate", data := .fields #[.none, .bool false, .ref s.heap.objs.size, rawInt 0, .none, .none] }).get? (s.heap.push { cls := .type "tuple_iterator", data := .fields #[.ref l, .int 0 0] }).objs.size = some _ := Heap.get?_push_size _ rfl
  show _ ∧ _
  rw [z1] at g2 ⊢
  exact ⟨⟨_, g2, rfl⟩, h _ g2 ⟨_, Heap.get?_push_of_some _ (Heap.get?_push_size _ rfl), rfl, rfl⟩ (by rw [Heap.size_push, z1]) fun b o x => Heap.get?_push_of_some _ (Heap.get?_push_of_some _ x)⟩
end
open L2 in
/-- pairs, each new, while G stands -/
def ItP (G : Hp → Prop) (items : List (V × V)) : It :=
  ⟨fun i H => G H ∧ i < items.length, fun i H v H' => ∃ T x y, v = .ref T ∧ H T = none ∧ H' = upd H T (.tup [x, y]) ∧ items[i]? = some (x, y), fun i H => G H ∧ items.length ≤ i⟩
open L2 in
theorem walk_P {G : Hp → Prop} {items : List (V × V)} : Walk (ItP G items) items.length G (fun i H v H' => (ItP G items).yld i H v H') :=
  ⟨fun i H hi q => ⟨q, hi⟩, fun H q => ⟨q, Nat.le_refl _⟩, fun i H x H' hi q y => y⟩
open L2 in
theorem turn_enumP {P : Program} {w : World} {K : PySem.W.Frag} {elts : List Expr} {kk : Nat} {tpos : Pos} {G : Hp → Prop} {items : List (V × V)} (k0 : Wkr P w)
    (hk : ∀ (X : Cx) (pins : List (Addr × Obj)) (σ : L2.St) (H : Hp) (s : Shared), X.prog = P → X.w = w → X.K = K → Inv X pins σ H s → G H → ∃ k : Wkr P w, k.at_ = k0.at_ ∧ k.ok s.heap ∧ k.n = items.length ∧ ∀ i u, k.item i u → ∃ x, items[i]? = some (.int (i : Nat), x) ∧ RelV x u) (e it : Addr) :
    Turn P w K (.Tuple elts kk tpos) (ItP G items) [e, it] e (fun i h => (∃ old, IsEnum h e it ((i : Nat) : Int) old) ∧ k0.at_ h it i ∧ e ≠ it) where
  mem := by simp
  obj := fun i h st b hb => by
    obtain ⟨⟨old, he⟩, hit, _⟩ := st
    have e' : b = e ∨ b = it := by simpa using hb
    rcases e' with z | z
    · rw [z]; exact ⟨_, he, fun v q => nomatch q⟩
    · obtain ⟨o, vs, ho, hd, _⟩ := k0.rec_ hit
      rw [z]; exact ⟨o, ho, fun v q => by rw [hd] at q; cases q⟩
  keep := fun i h h' st kp => let ⟨⟨old, he⟩, hi, hne⟩ := st; ⟨⟨old, kp e (by simp) _ he⟩, k0.keep hi fun o q => kp it (by simp) o q, hne⟩
  item := by
    intro X hP hw hK hc i pins s σ H E I hf st hg
    obtain ⟨⟨old, he⟩, hit, hne⟩ := st
    obtain ⟨hG, hi⟩ := hg
    obtain ⟨k, ka, kok, kn, kit⟩ := hk X pins σ H s hP hw hK I hG
    subst hP hw hK
    have hel : e < s.heap.objs.size := Heap.lt_size he
    obtain ⟨oi, _, hoi, _⟩ := k0.rec_ hit
    have hil : it < s.heap.objs.size := Heap.lt_size hoi
    refine pyNext_enum k he (by rw [ka]; exact hit) kok (by rw [kn]; exact hi) hne fun h' u tk tk2 hu ho hit' hT hsz hkp => ?_
    obtain ⟨x, hx, ru⟩ := kit i u hu
    refine ⟨_, rfl, wpAny_letOwnedTupleGo_enum (s := { s with heap := h', toks := tk }) ho fun h'' he' sb => ?_⟩
    have hT2 : h''.get? s.heap.objs.size = some { cls := .type "tuple", data := .seq #[.int i tk2, u] } := (sb.2 _ (Nat.ne_of_gt hel)).trans hT
    have new : ObjOk X.prog X.w (upd H s.heap.objs.size (.tup [.int (i : Nat), x])) h'' s.heap.objs.size (.tup [.int (i : Nat), x]) :=
      ⟨by show 2 ≤ sizeLine; decide, [.int i tk2, u], .cons ⟨_, rfl⟩ (.cons ru .nil), ⟨_, hT2, rfl, _, rfl⟩⟩
    have I1 : Inv X pins σ (upd H s.heap.objs.size (.tup [.int (i : Nat), x])) { s with heap := h'', toks := tk } :=
      I.turnedNew (ch := [e, it]) (fun b ob hb q => (sb.2 b (fun z => hb (by simp [z]))).trans (hkp b ob (fun z => hb (by simp [z])) (fun z => hb (by simp [z])) q)) hf (Nat.le_refl _) new
    refine ⟨.ref s.heap.objs.size, _, I1, rfl, ⟨_, _, x, rfl, I.hok.fresh (Nat.le_refl _), rfl, hx⟩, ⟨⟨u, ?_⟩, ?_, hne⟩, fun b hb => ?_⟩
    · have e1 : ((i + 1 : Nat) : Int) = (i : Int) + 1 := by omega
      rw [e1]; exact he'
    · rw [ka] at hit'
      exact k0.keep hit' fun o q => (sb.2 it (Ne.symm hne)).trans q
    · have hb' : b < s.heap.objs.size := by
        have e' : b = e ∨ b = it := by simpa using hb
        rcases e' with z | z
        · rw [z]; exact hel
        · rw [z]; exact hil
      rw [upd_ne (Nat.ne_of_lt hb')]
      exact (hf b hb).1
  done := by
    intro X hP hw hK hc i pins s σ H E I hf st hg
    obtain ⟨⟨old, he⟩, hit, hne⟩ := st
    obtain ⟨hG, hi⟩ := hg
    obtain ⟨k, ka, kok, kn, kit⟩ := hk X pins σ H s hP hw hK I hG
    subst hP hw hK
    obtain ⟨f0, f1, f2, f3, f4, f5⟩ := hf it (by simp)
    exact pyNext_enum_end k (I.ok.hd hc) he (by rw [ka]; exact hit) kok (by rw [kn]; exact hi) fun h' eb => ⟨rfl, I.turned (t' := s.toks) (fun b o hb q => eb b o hb q) f0 f1 f3 f4 f5⟩
  self := fun A i s Q E st h => let ⟨⟨_, he⟩, _⟩ := st; wpAny_pyIter_enum he h
open L2 in
theorem vals_back {xs : List V} {us : List Value} (r : Vals xs us) {i : Nat} {u : Value} (h : us[i]? = some u) : ∃ x, xs[i]? = some x ∧ RelV x u := by
  have hl := r.length
  have hi : i < xs.length := by rw [hl]; exact (List.getElem?_eq_some_iff.mp h).1
  obtain ⟨u', e, rv⟩ := r.get (List.getElem?_eq_getElem hi)
  rw [h] at e
  cases e
  exact ⟨_, List.getElem?_eq_getElem hi, rv⟩
open L2 in
/-- enumerate(x) of a list, a tuple, a text -/
def iEnA (K : PySem.W.Frag) (ta : TA) : TI := fun σ H R => ta σ H fun vs H1 => (∃ a xs, vs = [.ref a] ∧ SqL K H1 a xs ∧ R (Ite K a) H1) ∨
  (∃ a xs, vs = [.ref a] ∧ SqT K H1 a xs ∧ R (ItP (fun H => SqT K H a xs) (xs.zipIdx.map fun p => (V.int (p.2 : Nat), p.1))) H1) ∨
  (∃ x : Str, vs = [.str x] ∧ R (ItP (fun _ => True) (x.cps.toList.zipIdx.map fun p => (V.int (p.2 : Nat), V.str ⟨#[p.1]⟩))) H1)
open L2 in
theorem pi_enA {X : Cx} {e : Expr} {ta : TA} {p pos tpos : Pos} {elts : List Expr} {kk : Nat} (hg : Gl X "enumerate") (hm : X.mg "enumerate" = none) (ha : PA X [e] ta) (hs : starEach [e] X.env = [(false, eval e X.env)]) :
    PI X (.Tuple elts kk tpos) (.Call (.Name "enumerate" p) [e] [] pos) (iEnA X.K ta) := by
  refine ⟨fun pins s σ H R I h => ?_⟩
  refine Call_ (ld_blt I hg hm boot_enumerate (PyProof.Rows.callWith_type1 (thn (ha.run pos pins s σ H _ I h) fun us s1 ⟨vs, H1, I1, r1, q1⟩ => ?_) hs rfl))
  have fp : ∀ b ∈ [s1.heap.objs.size + 1, s1.heap.objs.size], FpOk X pins H1 b := fun b hb => by
    have e' : b = s1.heap.objs.size + 1 ∨ b = s1.heap.objs.size := by simpa using hb
    have hle : s1.heap.objs.size ≤ b := by
      rcases e' with z | z
      · rw [z]; exact Nat.le_add_right _ _
      · rw [z]; exact Nat.le_refl _
    exact I1.fpOk hle (I1.hok.fresh hle)
  rcases q1 with ⟨a, xs, ex, hq, q⟩ | ⟨a, xs, ex, hq, q⟩ | ⟨x, ex, q⟩
  · subst ex
    obtain rfl := Vals.ref1 r1
    obtain ⟨its, rv, p', hz⟩ := I1.list hq
    exact call_enumerate_list p'.isList fun h' he hit hsz hk => wpAny_pyIter_enum he ⟨_, _, _, _, H1, rfl, I1.kept (t' := s1.toks) hk, turn_enum a (s1.heap.objs.size + 1) s1.heap.objs.size, ⟨⟨.none, he⟩, hit, Nat.succ_ne_self _⟩, fp, q⟩
  · subst ex
    obtain rfl := Vals.ref1 r1
    obtain ⟨its, rv, p', hz⟩ := I1.tuple hq
    refine call_enumT (show s1.heap.IsTuple a its.toArray from p') fun h' he hit hsz hk => wpAny_pyIter_enum he ⟨_, _, _, _, H1, rfl, I1.kept (t' := s1.toks) hk,
      turn_enumP (wkT a #[]) (fun X2 pins2 σ2 H2 s2 eP ew eK I2 hG => ?_) (s1.heap.objs.size + 1) s1.heap.objs.size, ⟨⟨.none, he⟩, hit, Nat.succ_ne_self _⟩, fp, q⟩
    rw [← eK] at hG
    obtain ⟨its2, rv2, p2, _⟩ := I2.tuple hG
    refine ⟨wkT a its2.toArray, rfl, p2, ?_, fun i u hu => ?_⟩
    · show its2.toArray.size = _
      have := rv2.length
      simp; omega
    · have hu : its2.toArray[i]? = some u := hu
      obtain ⟨x, hx, rx⟩ := vals_back rv2 (by simpa using hu)
      exact ⟨x, by simp [List.getElem?_zipIdx, hx], rx⟩
  · subst ex
    cases r1 with
    | cons r rr =>
      cases rr
      obtain ⟨t, rfl⟩ := r
      refine call_enumerate_str fun h' he hit hsz hk => wpAny_pyIter_enum he ⟨_, _, _, _, H1, rfl, I1.kept (t' := s1.toks) hk,
        turn_enumP (wkS x t) (fun X2 pins2 σ2 H2 s2 eP ew eK I2 hG => ⟨wkS x t, rfl, True.intro, by show x.cps.size = _; simp, fun i u hu => ?_⟩) (s1.heap.objs.size + 1) s1.heap.objs.size, ⟨⟨.none, he⟩, hit, Nat.succ_ne_self _⟩, fp, q⟩
      obtain ⟨c, tk, hc, rfl⟩ := hu
      exact ⟨.str ⟨#[c]⟩, by simp [List.getElem?_zipIdx, hc], ⟨_, rfl⟩⟩
end Lk

namespace Lk
open PySem PySem.Spec PyProof.Rows
section
variable {prog : Program} {w : World} {A : Around} {E : Value → Shared → Prop} {s : Shared}
/-- the sources lie apart from what a zip writes -/
def Apart (k : Wkr prog w) (bs : List Addr) : Prop := ∀ a ∈ k.src, a ∉ bs
theorem Wkr.okB (k : Wkr prog w) {h h' : Heap} {b : Addr} (x : k.ok h) (e : Heap.ExtBut b h h') (n : b ∉ k.src) : k.ok h' := k.skeep x fun a ha o q => e _ _ (fun z => n (z ▸ ha)) q
/-- the five objects of a zip -/
structure ZA (z TI TO i1 i2 : Addr) : Prop where
  TIz : TI ≠ z
  TOz : TO ≠ z
  i1z : i1 ≠ z
  i2z : i2 ≠ z
  TITO : TI ≠ TO
  TIi1 : TI ≠ i1
  TIi2 : TI ≠ i2
  TOi1 : TO ≠ i1
  TOi2 : TO ≠ i2
  i12 : i1 ≠ i2
theorem zip_item (k1 k2 : Wkr prog w) {z TI TO i1 i2 : Addr} {n : Nat} {a b : Value} {Q : Value → Shared → Prop} (D : ZA z TI TO i1 i2) (d1 : ∀ c ∈ [z, TO, i1, i2], c ∉ k1.src) (d2 : ∀ c ∈ [z, TO, i1, i2], c ∉ k2.src)
    (hz : IsZip s.heap z TI TO .none) (hTI : IsPair s.heap TI (.ref i1) (.ref i2)) (hTO : IsPair s.heap TO a b) (h1 : k1.at_ s.heap i1 n) (h2 : k2.at_ s.heap i2 n) (o1 : k1.ok s.heap) (o2 : k2.ok s.heap) (n1 : n < k1.n) (n2 : n < k2.n)
    (hQ : ∀ h' x y tk, k1.item n x → k2.item n y → IsZip h' z TI TO (rawInt s.heap.objs.size) → IsPair h' TO x y → k1.at_ h' i1 (n + 1) → k2.at_ h' i2 (n + 1) → IsPair h' s.heap.objs.size x y → h'.objs.size = s.heap.objs.size + 1 →
      (∀ c o, c ≠ z → c ≠ TO → c ≠ i1 → c ≠ i2 → s.heap.get? c = some o → h'.get? c = some o) → Q (.ref s.heap.objs.size) { s with heap := h', toks := tk }) :
    wpAny (model prog w) A (Builtin.«zip.__next__» ⟨[.ref z], []⟩) (fun fin s' => ∃ v, fin = .done (.ret v) ∧ Q v s') E s := by
  refine (show wpAny _ _ (field (.ref z) 2 >>= _) _ _ _ from wpAny_bind (wpAny_field hz rfl (x := .bool false) rfl ?_))
  refine (show wpAny _ _ (field (.ref z) 3 >>= _) _ _ _ from wpAny_bind (wpAny_field hz rfl (x := .ref TI) rfl (wpAny_bind (wpAny_seqItems hTI rfl ?_))))
  refine (show wpAny _ _ (Builtin.SmallTypes.ownedTupleIsFree (.ref z) >>= _) _ _ _ from wpAny_bind ?_)
  unfold Builtin.SmallTypes.ownedTupleIsFree
  refine wpAny_bind (wpAny_field hz rfl (x := .none) rfl (wpAny_pure ?_))
  simp only [if_true]
  refine wpAny_bind (wpAny_rule (wpAny_bind (wpAny_field hz rfl (x := .ref TO) rfl (wpAny_bind (wpAny_setField_rec hz (by simp) fun q1 z1 s1 => ?_)))))
  replace z1 : IsZip q1 z TI TO .ellipsis := z1
  refine wpAny_bind ?_
  simp only [List.zipIdx_cons, List.zipIdx_nil, List.forIn_cons, List.forIn_nil]
  refine wpAny_bind (wpAny_bind (wpAny_onRaise ?_))
  refine (show wpAny _ _ (Builtin.SmallTypes.nextOf (.ref i1) >>= _) _ _ _ from wpAny_bind (k1.next (s := { s with heap := q1 }) (k1.same h1 s1.extBut D.i1z) (k1.okB o1 s1.extBut (d1 z (by simp))) n1 fun q2 x t2 hx a2 s2 => wpAny_pure ?_))
  replace s2 : Heap.SameBut i1 q1 q2 := s2
  have p2 : IsPair q2 TO a b := s2.extBut _ _ D.TOi1 (s1.extBut _ _ D.TOz hTO)
  refine wpAny_bind (wpAny_seqItems p2 rfl (wpAny_bind (wpAny_updateSeq_pair p2 fun q3 p3 s3 => wpAny_bind (wpAny_letGo (wpAny_pure ?_)))))
  replace p3 : IsPair q3 TO x b := p3
  replace s3 : Heap.SameBut TO q2 q3 := s3
  refine wpAny_bind (wpAny_bind (wpAny_onRaise ?_))
  have b3 : k2.at_ q3 i2 n := k2.same (k2.same (k2.same h2 s1.extBut D.i2z) s2.extBut D.i12.symm) s3.extBut D.TOi2.symm
  have c3 : k2.ok q3 := k2.okB (k2.okB (k2.okB o2 s1.extBut (d2 z (by simp))) s2.extBut (d2 i1 (by simp))) s3.extBut (d2 TO (by simp))
  refine (show wpAny _ _ (Builtin.SmallTypes.nextOf (.ref i2) >>= _) _ _ _ from wpAny_bind (k2.next (s := { s with heap := q3, toks := t2 }) b3 c3 n2 fun q4 y t4 hy b4 s4 => wpAny_pure ?_))
  replace s4 : Heap.SameBut i2 q3 q4 := s4
  have p4 : IsPair q4 TO x b := s4.extBut _ _ D.TOi2 p3
  refine wpAny_bind (wpAny_seqItems p4 rfl (wpAny_bind (wpAny_updateSeq_pair p4 fun q5 p5 s5 => wpAny_bind (wpAny_letGo (wpAny_pure (wpAny_pure ?_))))))
  replace p5 : IsPair q5 TO x y := p5
  replace s5 : Heap.SameBut TO q4 q5 := s5
  refine wpAny_bind (wpAny_seqItems p5 rfl (wpAny_bind (wpAny_newTuple ?_)))
  have hsz : q5.objs.size = s.heap.objs.size := by rw [s5.1, s4.1, s3.1, s2.1, s1.1]
  have z5 : IsZip q5 z TI TO .ellipsis := s5.extBut _ _ D.TOz.symm (s4.extBut _ _ D.i2z.symm (s3.extBut _ _ D.TOz.symm (s2.extBut _ _ D.i1z.symm z1)))
  have kp5 : ∀ c o, c ≠ z → c ≠ TO → c ≠ i1 → c ≠ i2 → s.heap.get? c = some o → q5.get? c = some o := fun c o e1 e2 e3 e4 e => s5.extBut _ _ e2 (s4.extBut _ _ e4 (s3.extBut _ _ e2 (s2.extBut _ _ e3 (s1.extBut _ _ e1 e))))
  have a5 : k1.at_ q5 i1 (n + 1) := k1.same (k1.same (k1.same a2 s3.extBut D.TOi1.symm) s4.extBut D.i12) s5.extBut D.TOi1.symm
  have b5 : k2.at_ q5 i2 (n + 1) := k2.same b4 s5.extBut D.TOi2.symm
  have zlt : z < q5.objs.size := Heap.lt_size z5
  refine (show wpAny _ _ (Builtin.SmallTypes.ownedTupleHandOut (.ref z) (.ref q5.objs.size) >>= _) _ _ _ from wpAny_bind ?_)
  unfold Builtin.SmallTypes.ownedTupleHandOut
  have z6 : IsZip (q5.push { cls := .type "tuple", data := .seq #[x, y] }) z TI TO .ellipsis := Heap.get?_push_of_some _ z5
  refine wpAny_bind (wpAny_setField_rec z6 (by simp) fun q7 z7 s7 => ?_)
  replace z7 : IsZip q7 z TI TO (rawInt q5.objs.size) := z7
  refine wpAny_setField_rec z7 (by simp) fun q8 z8 s8 => ?_
  replace z8 : IsZip q8 z TI TO (rawInt q5.objs.size) := z8
  have up : ∀ c o, c ≠ z → q5.get? c = some o → q8.get? c = some o := fun c o e1 e => s8.extBut _ _ e1 (s7.extBut _ _ e1 (Heap.get?_push_of_some _ e))
  have T8 : IsPair q8 q5.objs.size x y := s8.extBut _ _ (Nat.ne_of_gt zlt) (s7.extBut _ _ (Nat.ne_of_gt zlt) (Heap.get?_push_size _ rfl))
  have y8 : q8.objs.size = q5.objs.size + 1 := by rw [s8.1, s7.1, Heap.size_push]
  rw [hsz] at z8 T8 y8
  refine wpAny_pure ⟨_, rfl, ?_⟩
  show Q (.ref q5.objs.size) _
  rw [hsz]
  exact hQ q8 x y t4 hx hy z8 (up _ _ D.TOz p5) (k1.keep a5 fun o e => up _ o D.i1z e) (k2.keep b5 fun o e => up _ o D.i2z e) T8 y8 fun c o e1 e2 e3 e4 e => up c o e1 (kp5 c o e1 e2 e3 e4 e)
theorem zip_end (k1 k2 : Wkr prog w) {z TI TO i1 i2 : Addr} {n : Nat} {a b : Value} {Q : Fin → Shared → Prop} (hh : A.handled = none) (D : ZA z TI TO i1 i2) (d1 : ∀ c ∈ [z, TO, i1, i2], c ∉ k1.src) (d2 : ∀ c ∈ [z, TO, i1, i2], c ∉ k2.src)
    (hz : IsZip s.heap z TI TO .none) (hTI : IsPair s.heap TI (.ref i1) (.ref i2)) (hTO : IsPair s.heap TO a b) (h1 : k1.at_ s.heap i1 n) (h2 : k2.at_ s.heap i2 n) (o1 : k1.ok s.heap) (o2 : k2.ok s.heap) (hend : k1.n ≤ n ∨ k2.n ≤ n)
    (hE : ∀ h' e tk, (∀ c o, c ≠ z → c ≠ TO → c ≠ i1 → c ≠ i2 → s.heap.get? c = some o → h'.get? c = some o) → (∃ o, h'.get? e = some o ∧ o.cls = .type "StopIteration") → E (.ref e) { s with heap := h', toks := tk }) :
    wpAny (model prog w) A (Builtin.«zip.__next__» ⟨[.ref z], []⟩) Q E s := by
  refine (show wpAny _ _ (field (.ref z) 2 >>= _) _ _ _ from wpAny_bind (wpAny_field hz rfl (x := .bool false) rfl ?_))
  refine (show wpAny _ _ (field (.ref z) 3 >>= _) _ _ _ from wpAny_bind (wpAny_field hz rfl (x := .ref TI) rfl (wpAny_bind (wpAny_seqItems hTI rfl ?_))))
  refine (show wpAny _ _ (Builtin.SmallTypes.ownedTupleIsFree (.ref z) >>= _) _ _ _ from wpAny_bind ?_)
  unfold Builtin.SmallTypes.ownedTupleIsFree
  refine wpAny_bind (wpAny_field hz rfl (x := .none) rfl (wpAny_pure ?_))
  simp only [if_true]
  refine wpAny_bind (wpAny_rule (wpAny_bind (wpAny_field hz rfl (x := .ref TO) rfl (wpAny_bind (wpAny_setField_rec hz (by simp) fun q1 z1 s1 => ?_)))))
  replace z1 : IsZip q1 z TI TO .ellipsis := z1
  refine wpAny_bind ?_
  simp only [List.zipIdx_cons, List.zipIdx_nil, List.forIn_cons, List.forIn_nil]
  refine wpAny_bind (wpAny_bind (wpAny_onRaise ?_))
  refine (show wpAny _ _ (Builtin.SmallTypes.nextOf (.ref i1) >>= _) _ _ _ from ?_)
  have at1 := k1.same h1 s1.extBut D.i1z
  have ok1 := k1.okB o1 s1.extBut (d1 z (by simp))
  by_cases hn : k1.n ≤ n
  · refine wpAny_bind (k1.stop (s := { s with heap := q1 }) hh at1 ok1 hn fun q2 e s2 he => ?_)
    replace s2 : Heap.ExtBut i1 q1 q2 := s2
    obtain ⟨oe, hoe, hce⟩ := he
    have z2 : IsZip q2 z TI TO .ellipsis := s2 _ _ D.i1z.symm z1
    have hez : e ≠ z := fun x => by subst x; rw [z2] at hoe; cases hoe; simp at hce
    exact wpAny_setField_rec z2 (by simp) fun q3 _ s3 => hE q3 e _ (fun c o e1 _ e3 _ x => s3.extBut _ _ e1 (s2 _ _ e3 (s1.extBut _ _ e1 x))) ⟨oe, s3.extBut _ _ hez hoe, hce⟩
  · have hn2 : k2.n ≤ n := hend.resolve_left hn
    refine wpAny_bind (k1.next (s := { s with heap := q1 }) at1 ok1 (by omega) fun q2 x t2 hx a2 s2 => wpAny_pure ?_)
    replace s2 : Heap.SameBut i1 q1 q2 := s2
    have p2 : IsPair q2 TO a b := s2.extBut _ _ D.TOi1 (s1.extBut _ _ D.TOz hTO)
    refine wpAny_bind (wpAny_seqItems p2 rfl (wpAny_bind (wpAny_updateSeq_pair p2 fun q3 p3 s3 => wpAny_bind (wpAny_letGo (wpAny_pure ?_)))))
    replace s3 : Heap.SameBut TO q2 q3 := s3
    refine wpAny_bind (wpAny_bind (wpAny_onRaise ?_))
    have b3 : k2.at_ q3 i2 n := k2.same (k2.same (k2.same h2 s1.extBut D.i2z) s2.extBut D.i12.symm) s3.extBut D.TOi2.symm
    have c3 : k2.ok q3 := k2.okB (k2.okB (k2.okB o2 s1.extBut (d2 z (by simp))) s2.extBut (d2 i1 (by simp))) s3.extBut (d2 TO (by simp))
    refine (show wpAny _ _ (Builtin.SmallTypes.nextOf (.ref i2) >>= _) _ _ _ from wpAny_bind (k2.stop (s := { s with heap := q3, toks := t2 }) hh b3 c3 hn2 fun q4 e s4 he => ?_))
    replace s4 : Heap.ExtBut i2 q3 q4 := s4
    obtain ⟨oe, hoe, hce⟩ := he
    have z4 : IsZip q4 z TI TO .ellipsis := s4 _ _ D.i2z.symm (s3.extBut _ _ D.TOz.symm (s2.extBut _ _ D.i1z.symm z1))
    have hez : e ≠ z := fun x => by subst x; rw [z4] at hoe; cases hoe; simp at hce
    exact wpAny_setField_rec z4 (by simp) fun q5 _ s5 => hE q5 e _ (fun c o e1 e2 e3 e4 x => s5.extBut _ _ e1 (s4 _ _ e4 (s3.extBut _ _ e2 (s2.extBut _ _ e3 (s1.extBut _ _ e1 x))))) ⟨oe, s5.extBut _ _ hez hoe, hce⟩
theorem pyNext_zipG (k1 k2 : Wkr prog w) {z TI TO i1 i2 : Addr} {n : Nat} {a b : Value} {Q : Option Value → Shared → Prop} (D : ZA z TI TO i1 i2) (d1 : ∀ c ∈ [z, TO, i1, i2], c ∉ k1.src) (d2 : ∀ c ∈ [z, TO, i1, i2], c ∉ k2.src)
    (hz : IsZip s.heap z TI TO .none) (hTI : IsPair s.heap TI (.ref i1) (.ref i2)) (hTO : IsPair s.heap TO a b) (h1 : k1.at_ s.heap i1 n) (h2 : k2.at_ s.heap i2 n) (o1 : k1.ok s.heap) (o2 : k2.ok s.heap) (n1 : n < k1.n) (n2 : n < k2.n)
    (hQ : ∀ h' x y tk, k1.item n x → k2.item n y → IsZip h' z TI TO (rawInt s.heap.objs.size) → IsPair h' TO x y → k1.at_ h' i1 (n + 1) → k2.at_ h' i2 (n + 1) → IsPair h' s.heap.objs.size x y → h'.objs.size = s.heap.objs.size + 1 →
      (∀ c o, c ≠ z → c ≠ TO → c ≠ i1 → c ≠ i2 → s.heap.get? c = some o → h'.get? c = some o) → Q (some (.ref s.heap.objs.size)) { s with heap := h', toks := tk }) : wpAny (model prog w) A (pyNext (.ref z)) Q E s := by
  have hT : s.TypeIs (.ref z) "zip" := ⟨_, hz, rfl⟩
  unfold pyNext
  exact wpAny_bind (wpAny_attempt (wpAny_callSpecial?_slot (name := Str.ofString "__next__") hT F.slot_zip_next (wpAny_call_entry F.slot_zip_next hT F.entry_zip_next
    (zip_item k1 k2 D d1 d2 hz hTI hTO h1 h2 o1 o2 n1 n2 fun h' x y tk c1 c2 c3 c4 c5 c6 c7 c8 c9 => wpAny_pure (hQ h' x y tk c1 c2 c3 c4 c5 c6 c7 c8 c9)) (F.args_zip_next_1 _))))
theorem pyNext_zipG_end (k1 k2 : Wkr prog w) {z TI TO i1 i2 : Addr} {n : Nat} {a b : Value} {Q : Option Value → Shared → Prop} (hh : A.handled = none) (D : ZA z TI TO i1 i2) (d1 : ∀ c ∈ [z, TO, i1, i2], c ∉ k1.src) (d2 : ∀ c ∈ [z, TO, i1, i2], c ∉ k2.src)
    (hz : IsZip s.heap z TI TO .none) (hTI : IsPair s.heap TI (.ref i1) (.ref i2)) (hTO : IsPair s.heap TO a b) (h1 : k1.at_ s.heap i1 n) (h2 : k2.at_ s.heap i2 n) (o1 : k1.ok s.heap) (o2 : k2.ok s.heap) (hend : k1.n ≤ n ∨ k2.n ≤ n)
    (hQ : ∀ h' tk, (∀ c o, c ≠ z → c ≠ TO → c ≠ i1 → c ≠ i2 → s.heap.get? c = some o → h'.get? c = some o) → Q none { s with heap := h', toks := tk }) : wpAny (model prog w) A (pyNext (.ref z)) Q E s := by
  have hT : s.TypeIs (.ref z) "zip" := ⟨_, hz, rfl⟩
  unfold pyNext
  refine wpAny_bind (wpAny_attempt (wpAny_callSpecial?_slot (name := Str.ofString "__next__") hT F.slot_zip_next (wpAny_call_entry F.slot_zip_next hT F.entry_zip_next
    (zip_end k1 k2 hh D d1 d2 hz hTI hTO h1 h2 o1 o2 hend fun h' e tk hk he => ?_) (F.args_zip_next_1 _))))
  obtain ⟨o, ho, hc⟩ := he
  exact wpAny_bind (wpAny_isInstance (T := "StopIteration") (b := true) ⟨o, ho, hc⟩ isSubtype_stop (wpAny_pure (hQ _ _ hk)))
/-- zip(a text, a text) is made -/
abbrev sIt (x : Str) (t : Tok) : Obj := { cls := .type (strIterType x), data := .fields #[.str x t, .int 0 0] }
abbrev zS2 (h : Heap) (x y : Str) (t u : Tok) : Heap := (h.push (sIt x t)).push (sIt y u)
abbrev zS3 (h : Heap) (x y : Str) (t u : Tok) : Heap := (zS2 h x y t u).push { cls := .type "tuple", data := .seq #[.ref h.objs.size, .ref (h.push (sIt x t)).objs.size] }
abbrev zS4 (h : Heap) (x y : Str) (t u : Tok) : Heap := (zS3 h x y t u).push { cls := .type "tuple", data := .seq #[.none, .none] }
abbrev zS5 (h : Heap) (x y : Str) (t u : Tok) : Heap := (zS4 h x y t u).push { cls := .type "zip", data := .fields #[.none, .bool false, .bool false, .ref (zS2 h x y t u).objs.size, .ref (zS3 h x y t u).objs.size] }
theorem meets_zipS (x y : Str) (t u : Tok) :
    Meets (Builtin.«zip.__new__» ⟨[.type "zip", .str x t, .str y u], []⟩) (fun _ R s => R (.ok (.ret (.ref (zS4 s.heap x y t u).objs.size))) { s with heap := zS5 s.heap x y t u }) :=
  .of_wp fun prog w A R s h => by
    obtain ⟨hp, g, d, tk, os⟩ := s
    have hsub := sub_zip
    wp_walk using wpAny_pyIter_strU
    exact ⟨_, rfl, h⟩
theorem call_zipS {x y : Str} {t u : Tok} {Q : Value → Shared → Prop}
    (h : ∀ h', IsZip h' (s.heap.objs.size + 4) (s.heap.objs.size + 2) (s.heap.objs.size + 3) .none → IsPair h' (s.heap.objs.size + 2) (.ref s.heap.objs.size) (.ref (s.heap.objs.size + 1)) → IsPair h' (s.heap.objs.size + 3) .none .none →
      h'.IsStrIter s.heap.objs.size (strIterType x) x t 0 → h'.IsStrIter (s.heap.objs.size + 1) (strIterType y) y u 0 → (∀ c o, s.heap.get? c = some o → h'.get? c = some o) → Q (.ref (s.heap.objs.size + 4)) { s with heap := h' }) :
    wpAny (model prog w) A (call (.type "zip") [.str x t, .str y u]) Q E s := by
  refine callType_new F.called_zip (by decide) (F.typeCall_zip_2 _ _) (F.newCall_zip_2 _ _) (fun obj => F.args_object_init_3 obj _ _) F.entry_zip_new (meets_zipS x y t u) ?_
  have z1 : (s.heap.push (sIt x t)).objs.size = s.heap.objs.size + 1 := Heap.size_push ..
  have z2 : (zS2 s.heap x y t u).objs.size = s.heap.objs.size + 2 := by rw [Heap.size_push, z1]
  have z3 : (zS3 s.heap x y t u).objs.size = s.heap.objs.size + 3 := by rw [Heap.size_push, z2]
  have z4 : (zS4 s.heap x y t u).objs.size = s.heap.objs.size + 4 := by rw [Heap.size_push, z3]
  have g5 : (zS5 s.heap x y t u).get? (zS4 s.heap x y t u).objs.size = some _ := Heap.get?_push_size _ rfl
  have g4 : (zS5 s.heap x y t u).get? (zS3 s.heap x y t u).objs.size = some _ := Heap.get?_push_of_some _ (Heap.get?_push_size _ rfl)
  have g3 : (zS5 s.heap x y t u).get? (zS2 s.heap x y t u).objs.size = some _ := Heap.get?_push_of_some _ (Heap.get?_push_of_some _ (Heap.get?_push_size _ rfl))
  have g2 : (zS5 s.heap x y t u).get? (s.heap.push (sIt x t)).objs.size = some _ := Heap.get?_push_of_some _ (Heap.get?_push_of_some _ (Heap.get?_push_of_some _ (Heap.get?_push_size _ rfl)))
  have g1 : (zS5 s.heap x y t u).get? s.heap.objs.size = some _ := Heap.get?_push_of_some _ (Heap.get?_push_of_some _ (Heap.get?_push_of_some _ (Heap.get?_push_of_some _ (Heap.get?_push_size _ rfl))))
  show _ ∧ _
  rw [z2, z3, z4] at g5
  rw [z1, z2] at g3
  rw [z3] at g4
  rw [z1] at g2
  rw [z4]
  exact ⟨⟨_, g5, rfl⟩, h _ g5 g3 g4 ⟨_, g1, rfl, rfl⟩ ⟨_, g2, rfl, rfl⟩ fun c o q =>
    Heap.get?_push_of_some _ (Heap.get?_push_of_some _ (Heap.get?_push_of_some _ (Heap.get?_push_of_some _ (Heap.get?_push_of_some _ q))))⟩
end
open L2 in
/-- the turns of zip(a text, a text) -/
theorem turn_zipS {P : Program} {w : World} {K : PySem.W.Frag} {elts : List Expr} {kk : Nat} {tpos : Pos} {x y : Str} {t u : Tok} {z TI TO i1 i2 : Addr} (D : ZA z TI TO i1 i2) :
    Turn P w K (.Tuple elts kk tpos) (ItP (fun _ => True) ((x.cps.toList.zip y.cps.toList).map fun p => (V.str ⟨#[p.1]⟩, V.str ⟨#[p.2]⟩))) [z, TI, TO, i1, i2] z
      (fun i h => IsZip h z TI TO .none ∧ IsPair h TI (.ref i1) (.ref i2) ∧ (∃ a b, IsPair h TO a b) ∧ h.IsStrIter i1 (strIterType x) x t i ∧ h.IsStrIter i2 (strIterType y) y u i) where
  mem := by simp
  obj := fun i h st c hc => by
    obtain ⟨hz, hTI, ⟨a, b, hTO⟩, ⟨o1, e1, _, d1⟩, ⟨o2, e2, _, d2⟩⟩ := st
    have e' : c = z ∨ c = TI ∨ c = TO ∨ c = i1 ∨ c = i2 := by simpa using hc
    rcases e' with q | q | q | q | q
    · rw [q]; exact ⟨_, hz, fun v q => nomatch q⟩
    · rw [q]; exact ⟨_, hTI, fun v q => nomatch q⟩
    · rw [q]; exact ⟨_, hTO, fun v q => nomatch q⟩
    · rw [q]; exact ⟨o1, e1, fun v q => by rw [d1] at q; cases q⟩
    · rw [q]; exact ⟨o2, e2, fun v q => by rw [d2] at q; cases q⟩
  keep := fun i h h' st kp => by
    obtain ⟨hz, hTI, ⟨a, b, hTO⟩, ⟨o1, e1, r1⟩, ⟨o2, e2, r2⟩⟩ := st
    exact ⟨kp z (by simp) _ hz, kp TI (by simp) _ hTI, ⟨a, b, kp TO (by simp) _ hTO⟩, ⟨o1, kp i1 (by simp) _ e1, r1⟩, ⟨o2, kp i2 (by simp) _ e2, r2⟩⟩
  item := by
    intro X hP hw hK hc i pins s σ H E I hf st hg
    subst hP hw hK
    obtain ⟨hz, hTI, ⟨a0, b0, hTO⟩, h1, h2⟩ := st
    obtain ⟨_, hi⟩ := hg
    rw [List.length_map, List.length_zip] at hi
    have hi1 : i < x.cps.size := by have := Array.length_toList (xs := x.cps); omega
    have hi2 : i < y.cps.size := by have := Array.length_toList (xs := y.cps); omega
    have hzl : z < s.heap.objs.size := Heap.lt_size hz
    refine pyNext_zipG (wkS x t) (wkS y u) D (fun c _ h => nomatch h) (fun c _ h => nomatch h) hz hTI hTO h1 h2 True.intro True.intro hi1 hi2 fun h' v1 v2 tk hx hy z' TO' h1' h2' hT hsz hk => ?_
    obtain ⟨c1, k1, hc1, rfl⟩ := hx
    obtain ⟨c2, k2, hc2, rfl⟩ := hy
    refine ⟨_, rfl, wpAny_letOwnedTupleGo_zip (s := { s with heap := h', toks := tk }) z' fun h'' z'' sb => ?_⟩
    have hT2 : h''.get? s.heap.objs.size = some { cls := .type "tuple", data := .seq #[.str ⟨#[c1]⟩ k1, .str ⟨#[c2]⟩ k2] } := (sb.2 _ (Nat.ne_of_gt hzl)).trans hT
    have new : ObjOk X.prog X.w (upd H s.heap.objs.size (.tup [.str ⟨#[c1]⟩, .str ⟨#[c2]⟩])) h'' s.heap.objs.size (.tup [.str ⟨#[c1]⟩, .str ⟨#[c2]⟩]) :=
      ⟨by show 2 ≤ sizeLine; decide, [.str ⟨#[c1]⟩ k1, .str ⟨#[c2]⟩ k2], .cons ⟨_, rfl⟩ (.cons ⟨_, rfl⟩ .nil), ⟨_, hT2, rfl, _, rfl⟩⟩
    have I1 : Inv X pins σ (upd H s.heap.objs.size (.tup [.str ⟨#[c1]⟩, .str ⟨#[c2]⟩])) { s with heap := h'', toks := tk } :=
      I.turnedNew (ch := [z, TI, TO, i1, i2]) (fun c o hb q => (sb.2 c (fun q' => hb (by simp [q']))).trans (hk c o (fun q' => hb (by simp [q'])) (fun q' => hb (by simp [q'])) (fun q' => hb (by simp [q'])) (fun q' => hb (by simp [q'])) q)) hf (Nat.le_refl _) new
    refine ⟨.ref s.heap.objs.size, _, I1, rfl, ⟨_, _, _, rfl, I.hok.fresh (Nat.le_refl _), rfl, ?_⟩, ⟨z'', ?_, ⟨_, _, (sb.2 _ D.TOz).trans TO'⟩, ?_, ?_⟩, fun c hcm => ?_⟩
    · have e1 : x.cps.toList[i]? = some c1 := by simpa using hc1
      have e2 : y.cps.toList[i]? = some c2 := by simpa using hc2
      rw [List.getElem?_map, zip_at e1 e2]; rfl
    · exact (sb.2 _ D.TIz).trans (hk _ _ D.TIz D.TITO D.TIi1 D.TIi2 hTI)
    · obtain ⟨o, e, r⟩ := h1'; exact ⟨o, (sb.2 _ D.i1z).trans e, r⟩
    · obtain ⟨o, e, r⟩ := h2'; exact ⟨o, (sb.2 _ D.i2z).trans e, r⟩
    · have hlt : c < s.heap.objs.size := by
        have e' : c = z ∨ c = TI ∨ c = TO ∨ c = i1 ∨ c = i2 := by simpa using hcm
        rcases e' with q | q | q | q | q
        · rw [q]; exact hzl
        · rw [q]; exact Heap.lt_size hTI
        · rw [q]; exact Heap.lt_size hTO
        · rw [q]; obtain ⟨_, e1, _⟩ := h1; exact Heap.lt_size e1
        · rw [q]; obtain ⟨_, e2, _⟩ := h2; exact Heap.lt_size e2
      rw [upd_ne (Nat.ne_of_lt hlt)]
      exact (hf c hcm).1
  done := by
    intro X hP hw hK hc i pins s σ H E I hf st hg
    subst hP hw hK
    obtain ⟨hz, hTI, ⟨a0, b0, hTO⟩, h1, h2⟩ := st
    obtain ⟨_, hi⟩ := hg
    rw [List.length_map, List.length_zip] at hi
    have he : x.cps.size ≤ i ∨ y.cps.size ≤ i := by
      have := Array.length_toList (xs := x.cps)
      have := Array.length_toList (xs := y.cps)
      omega
    exact pyNext_zipG_end (wkS x t) (wkS y u) (I.ok.hd hc) D (fun c _ h => nomatch h) (fun c _ h => nomatch h) hz hTI hTO h1 h2 True.intro True.intro he fun h' tk hk => ⟨rfl, I.turnedL (t' := tk) (ch := [z, TI, TO, i1, i2]) (fun c o hb q =>
      hk c o (fun q' => hb (by simp [q'])) (fun q' => hb (by simp [q'])) (fun q' => hb (by simp [q'])) (fun q' => hb (by simp [q'])) q) hf⟩
  self := fun A i s Q E st h => wpAny_pyIter_zip st.1 h
theorem za_of (n : Nat) : ZA (n + 4) (n + 2) (n + 3) n (n + 1) := by
  refine ⟨?_, ?_, ?_, ?_, ?_, ?_, ?_, ?_, ?_, ?_⟩ <;> (intro h; have h2 : (_ : Nat) = _ := h; omega)
open L2 RZ in
/-- zip of two lists, two tuples, two texts -/
def iZpA (K : PySem.W.Frag) (ta : TA) : TI := fun σ H R => ta σ H fun vs H1 => (∃ a b xs ys, vs = [.ref a, .ref b] ∧ ((SqL K H1 a xs ∧ SqL K H1 b ys ∧ R (Itz K a b) H1) ∨ (SqT K H1 a xs ∧ SqT K H1 b ys ∧ R (ItzT K a b) H1))) ∨
  ∃ x y : Str, vs = [.str x, .str y] ∧ R (ItP (fun _ => True) ((x.cps.toList.zip y.cps.toList).map fun p => (V.str ⟨#[p.1]⟩, V.str ⟨#[p.2]⟩))) H1
open L2 RZ in
theorem pi_zpA {X : Cx} {e e2 : Expr} {ta : TA} {p pos tpos : Pos} {elts : List Expr} {kk : Nat} (hg : Gl X "zip") (hm : X.mg "zip" = none) (ha : PA X [e, e2] ta)
    (hs : starEach [e, e2] X.env = (false, eval e X.env) :: starEach [e2] X.env) (hpl : (backTo pos (starEach [e2] X.env)).any (·.1) = false) : PI X (.Tuple elts kk tpos) (.Call (.Name "zip" p) [e, e2] [] pos) (iZpA X.K ta) := by
  refine ⟨fun pins s σ H R I h => ?_⟩
  refine Call_ (ld_blt I hg hm PyProof.Rows.boot_zip (PyProof.Rows.callWith_type1 (thn (ha.run pos pins s σ H _ I h) fun us s1 ⟨vs, H1, I1, r1, q1⟩ => ?_) hs hpl))
  have f5 : ∀ c, c ∈ [s1.heap.objs.size + 4, s1.heap.objs.size + 2, s1.heap.objs.size + 3, s1.heap.objs.size, s1.heap.objs.size + 1] → FpOk X pins H1 c := fun c hcm => by
    have e' : c = s1.heap.objs.size + 4 ∨ c = s1.heap.objs.size + 2 ∨ c = s1.heap.objs.size + 3 ∨ c = s1.heap.objs.size ∨ c = s1.heap.objs.size + 1 := by simpa using hcm
    have hle : s1.heap.objs.size ≤ c := by omega
    exact I1.fpOk hle (I1.hok.fresh hle)
  rcases q1 with ⟨a, b, xs, ys, ex, q1⟩ | ⟨x, y, ex, q⟩
  · subst ex
    cases r1 with
    | cons r rr =>
      cases rr with
      | cons r' rr =>
        cases rr
        cases r
        cases r'
        rcases q1 with ⟨hqx, hqy, q⟩ | ⟨hqx, hqy, q⟩
        · obtain ⟨its, rv, p1, _⟩ := I1.list hqx
          obtain ⟨its2, rv2, p2, _⟩ := I1.list hqy
          exact call_zip_2 p1.isList p2.isList fun h' hz hTI hTO h1 h2 hsz hk => wpAny_pyIter_zip hz ⟨_, _, _, _, H1, rfl, I1.kept (t' := s1.toks) hk, turn_zip (PySem.W.ktu_apart s1.heap.objs.size a b p1.lt p2.lt), ⟨hz, hTI, ⟨_, _, hTO⟩, h1, h2⟩, f5, q⟩
        · obtain ⟨its, rv, p1, _⟩ := I1.tuple hqx
          obtain ⟨its2, rv2, p2, _⟩ := I1.tuple hqy
          obtain ⟨o1, ho1, _⟩ := id p1
          obtain ⟨o2, ho2, _⟩ := id p2
          exact call_zipT (show s1.heap.IsTuple a its.toArray from p1) (show s1.heap.IsTuple b its2.toArray from p2) fun h' hz hTI hTO h1 h2 hsz hk => wpAny_pyIter_zip hz ⟨_, _, _, _, H1, rfl, I1.kept (t' := s1.toks) hk,
            turn_zipT (PySem.W.ktu_apart s1.heap.objs.size a b (Heap.lt_size ho1) (Heap.lt_size ho2)), ⟨hz, hTI, ⟨_, _, hTO⟩, h1, h2⟩, f5, q⟩
  · subst ex
    cases r1 with
    | cons r rr =>
      cases rr with
      | cons r' rr =>
        cases rr
        obtain ⟨t, rfl⟩ := r
        obtain ⟨u, rfl⟩ := r'
        exact call_zipS fun h' hz hTI hTO h1 h2 hk => wpAny_pyIter_zip hz ⟨_, _, _, _, H1, rfl, I1.kept (t' := s1.toks) hk, turn_zipS (t := t) (u := u) (za_of s1.heap.objs.size), ⟨hz, hTI, ⟨_, _, hTO⟩, h1, h2⟩, f5, q⟩
end Lk

namespace Lk
open PySem L2 PySem.Spec PyProof.Rows
def SI (it : XI) : Prop := ∀ {cl : String → Option Addr} {X : Cx} {c : Kx} {k : Nat} {Wx : WX} {F : Fn} {pt p : Expr}, Gd cl X c k Wx F → chkI it c pt p = true → NdI (gv cl X) k it →
  ∃ wi, PI X pt p wi ∧ JG X.K cl Wx wi (evI it F) (rIt X.K cl)
theorem si_val {e : XE} (S : SV e) : SI (.val e) := fun {cl X c k Wx F pt p} g h nd => by
  obtain ⟨te, hp, J⟩ := S.je g h nd
  refine ⟨_, pi_any hp, ?_⟩
  intro W0 H0 W s σ H Q out s' R h hok hx
  refine J.go R h hx (fun v s1 h1 x W1 H1 l1 R1 rp => ?_)
  obtain ⟨xs, ex, h2⟩ := op1_cases h1
  obtain ⟨rfl, rfl⟩ := rt_inj h2
  have fin : ∀ J, WalkP X.K cl W1 J xs → Q J H1 := fun J w => hok _ rfl J W1 H1 l1 R1 w
  have rp' : Rep X.K cl W1 v x := rp
  unfold itemsOf at ex
  split at ex
  · cases ex
    unfold Rep at rp'
    obtain ⟨a, ys, e1, e2, r⟩ := rp'
    exact .inr (.inl ⟨a, ys, e1, .inl (.inl (R1.rm.sub _ _ e2)), fin _ (wp_tup (.inl (.inl e2)) r)⟩)
  · cases ex
    unfold Rep at rp'
    obtain ⟨a, ys, e1, e2, r⟩ := rp'
    exact .inr (.inl ⟨a, ys, e1, sqt_mono R1.rm.sub e2, fin _ (wp_tup e2 r)⟩)
  · cases ex
    unfold Rep at rp'
    obtain ⟨a, ys, e1, e2, r⟩ := rp'
    exact .inl ⟨a, ys, e1, .inl (.inl (R1.rm.sub _ _ e2)), fin _ (wp_list e2 r)⟩
  · cases ex
    unfold Rep at rp'
    exact .inr (.inr (.inl ⟨_, rp', fin _ wp_str⟩))
  · cases ex
    unfold Rep at rp'
    obtain ⟨a, o, l, e1, e2, r⟩ := rp'
    exact .inr (.inr (.inr ⟨a, o, l, e1, R1.rm.sub _ _ e2, fin _ (wp_keys e2 r)⟩))
  · cases ex
theorem bnd_and {a b : Int} (h : rgB a b = true) : -(2 ^ 62) ≤ a ∧ a < 2 ^ 62 ∧ -(2 ^ 62) ≤ b ∧ b < 2 ^ 62 := by
  unfold rgB at h
  simp only [Bool.and_eq_true, decide_eq_true_eq] at h
  omega
theorem si_rng1 {a : XE} (S : SV a) : SI (.rng1 a) := fun {cl X c k Wx F pt p} g h nd => by
  match p, h with
  | .Call (.Name x q) [pa] [] pos, h =>
    obtain ⟨h1, h2⟩ := and_t h
    obtain ⟨h2, h3⟩ := and_t h2
    obtain ⟨h3, h4⟩ := and_t h3
    cases (dec_t h1)
    obtain ⟨te, hp, J⟩ := S.je g h4 nd
    obtain ⟨g1, g2, g3⟩ := g.gl h2
    refine ⟨_, pi_range1 g1 (g.blt _ (by decide +kernel)) (pa_cons hp pa_nil (star_cons h3)) (star_cons h3), ?_⟩
    intro W0 H0 W s σ H Q out s' R h hok hx
    refine J.go R h hx (fun v s1 h1 x W1 H1 l1 R1 rp => ?_)
    cases v with
    | int j =>
      have h1 : (if rgB 0 j then rt (rangeP 0 j) s1 else none) = some (out, s') := h1
      split at h1
      · rename_i hb
        obtain ⟨rfl, rfl⟩ := rt_inj h1
        have rp' : Rep X.K cl W1 (.int j) x := rp
        unfold Rep at rp'
        subst rp'
        obtain ⟨b1, b2, b3, b4⟩ := bnd_and hb
        refine ⟨j, rfl, b3, b4, hok _ rfl _ W1 H1 l1 R1 ?_⟩
        have q := wp_range (K := X.K) (cl := cl) (W := W1) (a := 0) (b := j)
        rw [Int.sub_zero] at q
        exact q
      · cases h1
    | _ => cases h1
theorem si_rng2 {a b : XE} (Sa : SV a) (Sb : SV b) : SI (.rng2 a b) := fun {cl X c k Wx F pt p} g h nd => by
  match p, h with
  | .Call (.Name x q) [pa, pb] [] pos, h =>
    obtain ⟨h1, h2⟩ := and_t h
    obtain ⟨h2, h3⟩ := and_t h2
    obtain ⟨h3, h4⟩ := and_t h3
    obtain ⟨h4, h5⟩ := and_t h4
    obtain ⟨h5, h6⟩ := and_t h5
    cases (dec_t h1)
    obtain ⟨te, hp, J⟩ := Sa.je g h5 nd.1
    obtain ⟨te2, hp2, J2⟩ := Sb.je g h6 nd.2
    obtain ⟨g1, g2, g3⟩ := g.gl h2
    have s2 : starEach [pb] X.env = [(false, eval pb X.env)] := star_cons h4
    refine ⟨_, pi_range2 g1 (g.blt _ (by decide +kernel)) (pa_cons hp (pa_cons hp2 pa_nil (star_cons h4)) (star_cons h3)) (by rw [star_cons h3, s2]) s2, ?_⟩
    intro W0 H0 W s σ H Q out s' R h hok hx
    refine J.go R h hx (fun v s1 h1 x W1 H1 l1 R1 rp => ?_)
    refine J2.go R1 h1 (hx_le l1 hx) (fun v2 s2 h2 y W2 H2 l2 R2 rq => ?_)
    match v, v2, h2, rp, rq with
    | .int i, .int j, h2, rp, rq =>
      have h2 : (if rgB i j then rt (rangeP i j) s2 else none) = some (out, s') := h2
      split at h2
      · rename_i hb
        obtain ⟨rfl, rfl⟩ := rt_inj h2
        have rp' : Rep X.K cl W1 (.int i) x := rp
        unfold Rep at rp'
        subst rp'
        have rq' : Rep X.K cl W2 (.int j) y := rq
        unfold Rep at rq'
        subst rq'
        obtain ⟨b1, b2, b3, b4⟩ := bnd_and hb
        exact ⟨i, j, rfl, ⟨b1, b2, b3, b4⟩, hok _ rfl _ W2 H2 (l1.trans l2) R2 wp_range⟩
      · cases h2
theorem tup_of {t : Expr} (h : isTupE t = true) : ∃ es kk pos, t = .Tuple es kk pos := by
  cases t with
  | Tuple es kk pos => exact ⟨es, kk, pos, rfl⟩
  | _ => exact ff h
theorem wp_P {K : PySem.W.Frag} {cl : String → Option Addr} {W : Wd} {G : Hp → Prop} {items : List (V × V)} {qs : List (PV × PV)} (hl : items.length = qs.length) (hG : ∀ W' H, W.le W' → Sub W' H → G H)
    (hr : ∀ (i : Nat) x y q, items[i]? = some (x, y) → qs[i]? = some q → Rep K cl W q.1 x ∧ Rep K cl W q.2 y) : WalkP K cl W (ItP G items) (qs.map fun q => .tup [q.1, q.2]) := by
  refine ⟨G, _, by rw [List.length_map, ← hl]; exact walk_P, hG, fun i H x H' hi y W' l s => ?_⟩
  obtain ⟨T, u, v, rfl, hn, rfl, h1⟩ := y
  rw [List.length_map] at hi
  obtain ⟨q, hq⟩ := getL hi
  obtain ⟨r1, r2⟩ := hr i u v q h1 hq
  exact ⟨.tup [q.1, q.2], by rw [List.getElem?_map, hq]; rfl, new_pair hn (Rep.mono l _ _ r1) (Rep.mono l _ _ r2)⟩
theorem si_enum {a : XE} (S : SV a) : SI (.enum a) := fun {cl X c k Wx F pt p} g h nd => by
  match p, h with
  | .Call (.Name x q) [pa] [] pos, h =>
    obtain ⟨h0, h⟩ := and_t h
    obtain ⟨h1, h2⟩ := and_t h
    obtain ⟨h2, h3⟩ := and_t h2
    obtain ⟨h3, h4⟩ := and_t h3
    cases (dec_t h1)
    obtain ⟨es, kk, tpos, rfl⟩ := tup_of h0
    obtain ⟨te, hp, J⟩ := S.je g h4 nd
    obtain ⟨g1, g2, g3⟩ := g.gl h2
    refine ⟨_, pi_enA g1 (g.blt _ (by decide +kernel)) (pa_cons hp pa_nil (star_cons h3)) (star_cons h3), ?_⟩
    intro W0 H0 W s σ H Q out s' R h hok hx
    refine J.go R h hx (fun v s1 h1 x W1 H1 l1 R1 rp => ?_)
    cases v with
    | lst xs =>
      obtain ⟨rfl, rfl⟩ := rt_inj (show rt (xs.zipIdx.map fun p => PV.tup [.int (p.2 : Nat), p.1]) s1 = _ from h1)
      have rp' : Rep X.K cl W1 (.lst xs) x := rp
      unfold Rep at rp'
      obtain ⟨b, ys, rfl, e2, r⟩ := rp'
      exact .inl ⟨b, ys, rfl, .inl (.inl (R1.rm.sub _ _ e2)), hok _ rfl _ W1 H1 l1 R1 (wp_enum e2 r)⟩
    | tup xs =>
      obtain ⟨rfl, rfl⟩ := rt_inj (show rt (xs.zipIdx.map fun p => PV.tup [.int (p.2 : Nat), p.1]) s1 = _ from h1)
      have rp' : Rep X.K cl W1 (.tup xs) x := rp
      unfold Rep at rp'
      obtain ⟨b, ys, rfl, e2, r⟩ := rp'
      refine .inr (.inl ⟨b, ys, rfl, .inl (.inl (R1.rm.sub _ _ e2)), hok _ rfl _ W1 H1 l1 R1 ?_⟩)
      have q := wp_P (K := X.K) (cl := cl) (W := W1) (G := fun H => SqT X.K H b ys) (items := ys.zipIdx.map fun p => (V.int (p.2 : Nat), p.1)) (qs := xs.zipIdx.map fun p => (PV.int (p.2 : Nat), p.1)) (by simp [r.length])
        (fun W' H l s => .inl (.inl (s _ _ (l.1 _ _ e2)))) (fun i x y q h1 h2 => by
          rw [List.getElem?_map, List.getElem?_zipIdx] at h1 h2
          cases hx : xs[i]? with
          | none => rw [hx] at h2; cases h2
          | some px =>
            obtain ⟨vy, e3, r3⟩ := r.get hx
            rw [e3] at h1
            rw [hx] at h2
            cases h1
            cases h2
            exact ⟨by unfold Rep; rfl, r3⟩)
      rw [List.map_map] at q
      exact q
    | str xs =>
      obtain ⟨rfl, rfl⟩ := rt_inj (show rt (xs.zipIdx.map fun p => PV.tup [.int (p.2 : Nat), .str [p.1]]) s1 = _ from h1)
      have rp' : Rep X.K cl W1 (.str xs) x := rp
      unfold Rep at rp'
      subst rp'
      refine .inr (.inr ⟨_, rfl, hok _ rfl _ W1 H1 l1 R1 ?_⟩)
      have q := wp_P (K := X.K) (cl := cl) (W := W1) (G := fun _ => True) (items := xs.zipIdx.map fun p => (V.int (p.2 : Nat), V.str ⟨#[p.1]⟩)) (qs := xs.zipIdx.map fun p => (PV.int (p.2 : Nat), PV.str [p.1])) (by simp)
        (fun W' H l s => True.intro) (fun i x y q h1 h2 => by
          rw [List.getElem?_map, List.getElem?_zipIdx] at h1 h2
          cases hx : xs[i]? with
          | none => rw [hx] at h2; cases h2
          | some px =>
            rw [hx] at h1 h2
            cases h1
            cases h2
            exact ⟨by unfold Rep; rfl, by unfold Rep; rfl⟩)
      rw [List.map_map] at q
      exact q
    | _ => cases h1
theorem si_zip {a b : XE} (Sa : SV a) (Sb : SV b) : SI (.zip a b) := fun {cl X c k Wx F pt p} g h nd => by
  match p, h with
  | .Call (.Name x q) [pa, pb] [] pos, h =>
    obtain ⟨h0, h⟩ := and_t h
    obtain ⟨h1, h2⟩ := and_t h
    obtain ⟨h2, h3⟩ := and_t h2
    obtain ⟨h3, h4⟩ := and_t h3
    obtain ⟨h4, h5⟩ := and_t h4
    obtain ⟨h5, h6⟩ := and_t h5
    cases (dec_t h1)
    obtain ⟨es, kk, tpos, rfl⟩ := tup_of h0
    obtain ⟨te, hp, J⟩ := Sa.je g h5 nd.1
    obtain ⟨te2, hp2, J2⟩ := Sb.je g h6 nd.2
    obtain ⟨g1, g2, g3⟩ := g.gl h2
    have s2 : starEach [pb] X.env = [(false, eval pb X.env)] := star_cons h4
    refine ⟨_, pi_zpA g1 (g.blt _ (by decide +kernel)) (pa_cons hp (pa_cons hp2 pa_nil (star_cons h4)) (star_cons h3)) (star_cons h3) (by rw [s2]; rfl), ?_⟩
    intro W0 H0 W s σ H Q out s' R h hok hx
    refine J.go R h hx (fun v s1 h1 x W1 H1 l1 R1 rp => ?_)
    refine J2.go R1 h1 (hx_le l1 hx) (fun v2 s2 h2 y W2 H2 l2 R2 rq => ?_)
    match v, v2, h2, rp, rq with
    | .lst xs, .lst ys, h2, rp, rq =>
      obtain ⟨rfl, rfl⟩ := rt_inj (show rt ((xs.zip ys).map fun p => PV.tup [p.1, p.2]) s2 = _ from h2)
      have rp' : Rep X.K cl W2 (.lst xs) x := Rep.mono l2 _ _ rp
      unfold Rep at rp'
      obtain ⟨b, zs, rfl, e2, r⟩ := rp'
      have rq' : Rep X.K cl W2 (.lst ys) y := rq
      unfold Rep at rq'
      obtain ⟨b', zs', rfl, e2', r'⟩ := rq'
      exact .inl ⟨b, b', zs, zs', rfl, .inl ⟨.inl (.inl (R2.rm.sub _ _ e2)), .inl (.inl (R2.rm.sub _ _ e2')), hok _ rfl _ W2 H2 (l1.trans l2) R2 (wp_zip e2 r e2' r')⟩⟩
    | .tup xs, .tup ys, h2, rp, rq =>
      obtain ⟨rfl, rfl⟩ := rt_inj (show rt ((xs.zip ys).map fun p => PV.tup [p.1, p.2]) s2 = _ from h2)
      have rp' : Rep X.K cl W2 (.tup xs) x := Rep.mono l2 _ _ rp
      unfold Rep at rp'
      obtain ⟨b, zs, rfl, e2, r⟩ := rp'
      have rq' : Rep X.K cl W2 (.tup ys) y := rq
      unfold Rep at rq'
      obtain ⟨b', zs', rfl, e2', r'⟩ := rq'
      exact .inl ⟨b, b', zs, zs', rfl, .inr ⟨.inl (.inl (R2.rm.sub _ _ e2)), .inl (.inl (R2.rm.sub _ _ e2')), hok _ rfl _ W2 H2 (l1.trans l2) R2 (wp_zipT (.inl (.inl e2)) r (.inl (.inl e2')) r')⟩⟩
    | .ktp xs, .tup ys, h2, rp, rq =>
      obtain ⟨rfl, rfl⟩ := rt_inj (show rt ((xs.zip ys).map fun p => PV.tup [p.1, p.2]) s2 = _ from h2)
      have rp' : Rep X.K cl W2 (.ktp xs) x := Rep.mono l2 _ _ rp
      unfold Rep at rp'
      obtain ⟨b, zs, rfl, e2, r⟩ := rp'
      have rq' : Rep X.K cl W2 (.tup ys) y := rq
      unfold Rep at rq'
      obtain ⟨b', zs', rfl, e2', r'⟩ := rq'
      exact .inl ⟨b, b', zs, zs', rfl, .inr ⟨sqt_mono R2.rm.sub e2, .inl (.inl (R2.rm.sub _ _ e2')), hok _ rfl _ W2 H2 (l1.trans l2) R2 (wp_zipT e2 r (.inl (.inl e2')) r')⟩⟩
    | .str xs, .str ys, h2, rp, rq =>
      obtain ⟨rfl, rfl⟩ := rt_inj (show rt ((xs.zip ys).map fun p => PV.tup [.str [p.1], .str [p.2]]) s2 = _ from h2)
      have rp' : Rep X.K cl W1 (.str xs) x := rp
      unfold Rep at rp'
      subst rp'
      have rq' : Rep X.K cl W2 (.str ys) y := rq
      unfold Rep at rq'
      subst rq'
      refine .inr ⟨_, _, rfl, hok _ rfl _ W2 H2 (l1.trans l2) R2 ?_⟩
      have q := wp_P (K := X.K) (cl := cl) (W := W2) (G := fun _ => True) (items := (xs.zip ys).map fun p => (V.str ⟨#[p.1]⟩, V.str ⟨#[p.2]⟩)) (qs := (xs.zip ys).map fun p => (PV.str [p.1], PV.str [p.2])) (by simp)
        (fun W' H l s => True.intro) (fun i x y q h1 h2 => by
          rw [List.getElem?_map] at h1 h2
          cases hx : (xs.zip ys)[i]? with
          | none => rw [hx] at h2; cases h2
          | some px =>
            rw [hx] at h1 h2
            cases h1
            cases h2
            exact ⟨by unfold Rep; rfl, by unfold Rep; rfl⟩)
      rw [List.map_map] at q
      exact q
theorem si_items {a : XE} (S : SV a) : SI (.items a) := fun {cl X c k Wx F pt p} g h nd => by
  match p, h with
  | .Call (.Attribute pa x apos) [] [] pos, h =>
    obtain ⟨h0, h⟩ := and_t h
    obtain ⟨h1, h2⟩ := and_t h
    obtain ⟨h2, h3⟩ := and_t h2
    obtain ⟨h3, h4⟩ := and_t h3
    cases (dec_t h1)
    obtain ⟨es, kk, tpos, rfl⟩ := tup_of h0
    obtain ⟨te, hp, J⟩ := S.je g h4 nd
    refine ⟨_, pi_items hp (base_of h2) (by simpa using dec_t h3), ?_⟩
    intro W0 H0 W s σ H Q out s' R h hok hx
    refine J.go R h hx (fun v s1 h1 x W1 H1 l1 R1 rp => ?_)
    match v, h1, rp with
    | .dic false kvs, h1, rp =>
      obtain ⟨rfl, rfl⟩ := rt_inj (show rt (kvs.map fun p => PV.tup [pvD p.1, p.2]) s1 = _ from h1)
      have rp' : Rep X.K cl W1 (.dic false kvs) x := rp
      unfold Rep at rp'
      obtain ⟨b, o, l, rfl, e2, r⟩ := rp'
      exact ⟨b, o, l, rfl, R1.rm.sub _ _ e2, hok _ rfl _ W1 H1 l1 R1 (wp_items e2 r)⟩
theorem si_values {a : XE} (S : SV a) : SI (.values a) := fun {cl X c k Wx F pt p} g h nd => by
  match p, h with
  | .Call (.Attribute pa x apos) [] [] pos, h =>
    obtain ⟨h1, h2⟩ := and_t h
    obtain ⟨h2, h3⟩ := and_t h2
    obtain ⟨h3, h4⟩ := and_t h3
    cases (dec_t h1)
    obtain ⟨te, hp, J⟩ := S.je g h4 nd
    refine ⟨_, pi_values hp (base_of h2) (by simpa using dec_t h3), ?_⟩
    intro W0 H0 W s σ H Q out s' R h hok hx
    refine J.go R h hx (fun v s1 h1 x W1 H1 l1 R1 rp => ?_)
    match v, h1, rp with
    | .dic false kvs, h1, rp =>
      obtain ⟨rfl, rfl⟩ := rt_inj (show rt (kvs.map fun p => p.2) s1 = _ from h1)
      have rp' : Rep X.K cl W1 (.dic false kvs) x := rp
      unfold Rep at rp'
      obtain ⟨b, o, l, rfl, e2, r⟩ := rp'
      exact ⟨b, o, l, rfl, R1.rm.sub _ _ e2, hok _ rfl _ W1 H1 l1 R1 (wp_values e2 r)⟩
end Lk

namespace Lk
open PySem L2 PySem.Spec PyProof.Rows
section
variable {K : PySem.W.Frag} {cl : String → Option Addr} {W0 W W' : Wd} {H0 H H' : Hp} {s s' : Sg} {σ σ2 : L2.St} {D : Addr}
/-- an object that nobody knows -/
structure DF (W0 : Wd) (H0 : Hp) (W : Wd) (s : Sg) (σ : L2.St) (D : Addr) : Prop where
  f : W.F D = none
  i : D ∉ W.inj
  z : H0 D = none
  o : ∀ (i : Nat) q, s.env[i]? = some (.own q) → σ[i]? ≠ some (some (.ref D))
theorem Wd.le.inj_mem (l : W.le W') {a : Addr} (h : a ∈ W.inj) : a ∈ W'.inj := by
  obtain ⟨_, m, e⟩ := l
  rw [e]; exact List.mem_append_left _ h
theorem DF.f0 (d : DF W0 H0 W s σ D) (l : W0.le W) : W0.F D = none ∧ D ∉ W0.inj := by
  refine ⟨?_, fun h => d.i (l.inj_mem h)⟩
  cases e : W0.F D with
  | none => rfl
  | some u => have := l.1 _ _ e; rw [d.f] at this; cases this
theorem Rl.df_new (R : Rl K cl W0 H0 W s σ H) (h : H D = none) : DF W0 H0 W s σ D := by
  refine ⟨?_, fun hm => ?_, R.si.back D h, fun i q hq he => ?_⟩
  · cases e : W.F D with
    | none => rfl
    | some u => rw [R.rm.sub D u e] at h; cases h
  · obtain ⟨u, eu, _⟩ := R.rm.mem hm
    rw [h] at eu; cases eu
  · obtain ⟨b, eb, t, _⟩ := R.own i q hq
    rw [he] at eb
    have : D = b := by simpa using eb
    subst this
    obtain ⟨u, eu, _⟩ := t.ne_none
    rw [h] at eu; cases eu
theorem Rl.root {o : HO} (R : Rl K cl W0 H0 W s σ H) (d : DF W0 H0 W s σ D) (e : H D = some o) : Rl K cl W0 (upd H0 D o) W s σ H := by
  refine ⟨R.rm, ⟨R.si.le, fun a u h hn => ?_, fun a u h => ?_, fun a h => ?_, fun a h => ?_⟩, R.len, R.val, fun i p h => ?_, R.dist⟩
  · by_cases ea : a = D
    · subst ea; rw [upd_same] at h; cases h; exact e
    · rw [upd_ne ea] at h; exact R.si.keep a u h hn
  · by_cases ea : a = D
    · subst ea; rw [d.f] at h; cases h
    · rw [upd_ne ea]; exact R.si.newF a u h
  · by_cases ea : a = D
    · subst ea; exact absurd h d.i
    · rw [upd_ne ea]; exact R.si.newI a h
  · by_cases ea : a = D
    · subst ea; rw [e] at h; cases h
    · rw [upd_ne ea]; exact R.si.back a h
  · obtain ⟨a, ea, t, f, n, z⟩ := R.own i p h
    refine ⟨a, ea, t, f, n, ?_⟩
    rw [upd_ne (fun q => d.o i p h (by rw [ea, q]))]; exact z
theorem Rl.unroot {o : HO} (R : Rl K cl W0 (upd H0 D o) W s σ H) (z : H0 D = none) (f0 : W0.F D = none) (i0 : D ∉ W0.inj) : H D = some o ∧ DF W0 H0 W s σ D ∧ Rl K cl W0 H0 W s σ H := by
  have e : H D = some o := R.si.keep D o upd_same i0
  have nz : upd H0 D o D ≠ none := by rw [upd_same]; exact fun q => nomatch q
  refine ⟨e, ⟨?_, fun hm => ?_, z, fun i q hq he => ?_⟩, ⟨R.rm, ⟨R.si.le, fun a u h hn => ?_, fun a u h => ?_, fun a h => ?_, fun a h => ?_⟩, R.len, R.val, fun i p h => ?_, R.dist⟩⟩
  · cases e : W.F D with
    | none => rfl
    | some u =>
      rcases R.si.newF D u e with q | q
      · rw [f0] at q; cases q
      · exact absurd q nz
  · rcases R.si.newI D hm with q | q
    · exact i0 q
    · exact nz q
  · obtain ⟨a, ea, _, _, _, za⟩ := R.own i q hq
    rw [he] at ea
    have : D = a := by simpa using ea
    subst this
    exact nz za
  · have ea : a ≠ D := fun q => by subst q; rw [z] at h; cases h
    exact R.si.keep a u (by rw [upd_ne ea]; exact h) hn
  · rcases R.si.newF a u h with q | q
    · exact .inl q
    · have ea : a ≠ D := fun y => by subst y; exact nz q
      rw [upd_ne ea] at q; exact .inr q
  · rcases R.si.newI a h with q | q
    · exact .inl q
    · have ea : a ≠ D := fun y => by subst y; exact nz q
      rw [upd_ne ea] at q; exact .inr q
  · have q := R.si.back a h
    have ea : a ≠ D := fun y => by subst y; exact nz q
    rw [upd_ne ea] at q; exact q
  · obtain ⟨a, ea, t, f, n, za⟩ := R.own i p h
    have na : a ≠ D := fun y => by subst y; exact nz za
    rw [upd_ne na] at za
    exact ⟨a, ea, t, f, n, za⟩
theorem Rl.poke {o o' : HO} (R : Rl K cl W0 H0 W s σ H) (d : DF W0 H0 W s σ D) (e : H D = some o) (no : ∀ x, o ≠ .own x) : Rl K cl W0 H0 W s σ (upd H D o') := by
  refine ⟨R.rm.put d.f d.i (fun x q => no x (Option.some.inj (e.symm.trans q))), ⟨R.si.le, fun a u h hn => ?_, R.si.newF, R.si.newI, fun a h => ?_⟩, R.len, R.val, fun i p h => ?_, R.dist⟩
  · have na : a ≠ D := fun y => by subst y; rw [d.z] at h; cases h
    rw [upd_ne na]; exact R.si.keep a u h hn
  · by_cases ea : a = D
    · subst ea; exact d.z
    · rw [upd_ne ea] at h; exact R.si.back a h
  · obtain ⟨a, ea, t, f, n, za⟩ := R.own i p h
    have na : a ≠ D := fun q => d.o i p h (by rw [ea, q])
    refine ⟨a, ea, t.mono (.refl W) (fun u q => by rw [upd_ne na]; exact q) (fun c q => ?_), f, n, za⟩
    have nc : c ≠ D := fun y => by subst y; rw [e] at q; exact no _ (Option.some.inj q)
    rw [upd_ne nc]; exact q
/-! ### slots forgotten and put back -/
theorem wipeE_get {env : List Cell} {i : Nat} : ∀ {own : List Nat}, (wipeE env own)[i]? = if i ∈ own ∧ i < env.length then some .non else env[i]?
  | [] => by simp [wipeE]
  | j :: r => by
    unfold wipeE
    have hl : (wipeE env r).length = env.length := wipeE_len
    by_cases hj : j = i
    · subst hj
      by_cases hi : j < env.length
      · rw [List.getElem?_set_self (by rw [hl]; exact hi), if_pos ⟨List.mem_cons_self, hi⟩]
      · rw [List.getElem?_eq_none (by simpa [hl] using hi), if_neg (fun q => hi q.2), List.getElem?_eq_none (by simpa using hi)]
    · rw [List.getElem?_set_ne hj, wipeE_get (own := r)]
      have : (i ∈ j :: r ∧ i < env.length) ↔ (i ∈ r ∧ i < env.length) := by
        simp [Ne.symm hj]
      simp only [this]
where
  wipeE_len {env : List Cell} : ∀ {own : List Nat}, (wipeE env own).length = env.length
    | [] => rfl
    | _ :: r => by unfold wipeE; rw [List.length_set]; exact wipeE_len
theorem wipeE_len {env : List Cell} {own : List Nat} : (wipeE env own).length = env.length := wipeE_get.wipeE_len
theorem backE_get {old new : List Cell} {i : Nat} : ∀ {own : List Nat}, (backE old new own)[i]? = if i ∈ own ∧ i < new.length then some (old.getD i .non) else new[i]?
  | [] => by simp [backE]
  | j :: r => by
    unfold backE
    have hl : (backE old new r).length = new.length := backE_len
    by_cases hj : j = i
    · subst hj
      by_cases hi : j < new.length
      · rw [List.getElem?_set_self (by rw [hl]; exact hi), if_pos ⟨List.mem_cons_self, hi⟩]
      · rw [List.getElem?_eq_none (by simpa [hl] using hi), if_neg (fun q => hi q.2), List.getElem?_eq_none (by simpa using hi)]
    · rw [List.getElem?_set_ne hj, backE_get (own := r)]
      have : (i ∈ j :: r ∧ i < new.length) ↔ (i ∈ r ∧ i < new.length) := by
        simp [Ne.symm hj]
      simp only [this]
where
  backE_len {old new : List Cell} : ∀ {own : List Nat}, (backE old new own).length = new.length
    | [] => rfl
    | _ :: r => by unfold backE; rw [List.length_set]; exact backE_len
theorem backE_len {old new : List Cell} {own : List Nat} : (backE old new own).length = new.length := backE_get.backE_len
theorem wipe_get {σ : L2.St} {i : Nat} : ∀ {vs : List Nat}, (wipe σ vs)[i]? = if i ∈ vs ∧ i < σ.length then some none else σ[i]?
  | [] => by simp [wipe]
  | j :: r => by
    unfold wipe
    by_cases hj : j = i
    · subst hj
      by_cases hi : j < σ.length
      · rw [List.getElem?_set_self (by rw [wipe_length]; exact hi), if_pos ⟨List.mem_cons_self, hi⟩]
      · rw [List.getElem?_eq_none (by simpa [wipe_length] using hi), if_neg (fun q => hi q.2), List.getElem?_eq_none (by simpa using hi)]
    · rw [List.getElem?_set_ne hj, wipe_get (vs := r)]
      have : (i ∈ j :: r ∧ i < σ.length) ↔ (i ∈ r ∧ i < σ.length) := by
        simp [Ne.symm hj]
      simp only [this]
theorem Rl.wipe {own : List Nat} (R : Rl K cl W0 H0 W s σ H) : Rl K cl W0 H0 W { s with env := wipeE s.env own } (L2.wipe σ own) H := by
  have key : ∀ (i : Nat) c, (wipeE s.env own)[i]? = some c → c ≠ .non → s.env[i]? = some c ∧ (L2.wipe σ own)[i]? = σ[i]? := fun i c h hc => by
    rw [wipeE_get] at h
    split at h
    · cases h; exact absurd rfl hc
    · rename_i hn
      refine ⟨h, ?_⟩
      have hi : i < s.env.length := (List.getElem?_eq_some_iff.mp h).1
      rw [wipe_get, if_neg]
      intro q
      exact hn ⟨q.1, hi⟩
  refine ⟨R.rm, R.si, by rw [wipe_length, ← R.len]; exact wipeE_len, fun i p h => ?_, fun i p h => ?_, fun i j p q a h1 h2 e1 e2 => ?_⟩
  · obtain ⟨h1, h2⟩ := key i _ h (fun q => nomatch q)
    rw [h2]; exact R.val i p h1
  · obtain ⟨h1, h2⟩ := key i _ h (fun q => nomatch q)
    rw [h2]; exact R.own i p h1
  · obtain ⟨h1, h3⟩ := key i _ h1 (fun q => nomatch q)
    obtain ⟨h2, h4⟩ := key j _ h2 (fun q => nomatch q)
    rw [h3] at e1
    rw [h4] at e2
    exact R.dist i j p q a h1 h2 e1 e2
theorem noOwn_at {env : List Cell} {own : List Nat} (h : noOwn env own = true) {i : Nat} (hi : i ∈ own) (q : PV) : env[i]? ≠ some (.own q) := by
  intro e
  have := List.all_eq_true.mp h i hi
  rw [e] at this
  cases this
/-- behind a turn -/
theorem Rl.unwipe {own : List Nat} {Hb : Hp} (R0 : Rl K cl W0 H0 W s σ H) (no : noOwn s.env own = true) (R : Rl K cl W0 Hb W' s' σ2 H') (l : W.le W') (hw : L2.wipe σ2 own = L2.wipe σ own) : Rl K cl W0 Hb W' { s' with env := backE s.env s'.env own } σ H' := by
  have hlen : σ2.length = σ.length := by have := congrArg List.length hw; simpa [wipe_length] using this
  have key : ∀ (i : Nat) c, (backE s.env s'.env own)[i]? = some c → (i ∈ own ∧ s.env.getD i .non = c) ∨ (i ∉ own ∧ s'.env[i]? = some c ∧ σ2[i]? = σ[i]?) := fun i c h => by
    rw [backE_get] at h
    split at h
    · rename_i hn
      exact .inl ⟨hn.1, Option.some.inj h⟩
    · rename_i hn
      have hi : i < s'.env.length := (List.getElem?_eq_some_iff.mp h).1
      have ho : i ∉ own := fun q => hn ⟨q, hi⟩
      refine .inr ⟨ho, h, ?_⟩
      have := congrArg (fun l => l[i]?) hw
      simp only [wipe_get] at this
      rw [if_neg (fun q => ho q.1), if_neg (fun q => ho q.1)] at this
      exact this
  have getD' : ∀ (i : Nat) c, c ≠ .non → s.env.getD i .non = c → s.env[i]? = some c := fun i c hc h => by
    rw [List.getD_eq_getElem?_getD] at h
    cases e : s.env[i]? with
    | none => rw [e] at h; exact absurd h.symm hc
    | some u => rw [e] at h; simp at h; rw [h]
  have ownK : ∀ (i : Nat) q, (backE s.env s'.env own)[i]? = some (.own q) → s'.env[i]? = some (.own q) ∧ σ2[i]? = σ[i]? := fun i q h => by
    rcases key i _ h with ⟨h1, h2⟩ | ⟨_, h2, h3⟩
    · exact absurd (getD' i (.own q) (by intro z; cases z) h2) (noOwn_at no h1 q)
    · exact ⟨h2, h3⟩
  refine ⟨R.rm, R.si, ?_, fun i p h => ?_, fun i p h => ?_, fun i j p q a h1 h2 e1 e2 => ?_⟩
  · show (backE s.env s'.env own).length = _
    rw [backE_len, R.len, hlen]
  · rcases key i _ h with ⟨h1, h2⟩ | ⟨_, h2, h3⟩
    · obtain ⟨v, e, r⟩ := R0.val i p (getD' i _ (fun q => nomatch q) h2)
      exact ⟨v, e, r.mono l⟩
    · rw [← h3]; exact R.val i p h2
  · obtain ⟨h1, h2⟩ := ownK i p h
    rw [← h2]; exact R.own i p h1
  · obtain ⟨h1, h3⟩ := ownK i p h1
    obtain ⟨h2, h4⟩ := ownK j q h2
    rw [← h3] at e1
    rw [← h4] at e2
    exact R.dist i j p q a h1 h2 e1 e2
end
theorem compL_ok {α β : Type} {own : List Nat} {f : α → Sg → Rs (Option β)} : ∀ {xs : List α} {acc : List β} {s s' : Sg} {o : Lk.R (List β)}, compL own f xs acc s = some (o, s') → ∃ ys, o = .ok ys
  | [], acc, s, s', o, h => by obtain ⟨rfl, rfl⟩ := rt_inj (show rt acc s = _ from h); exact ⟨_, rfl⟩
  | x :: r, acc, s, s', o, h => by
    unfold compL at h
    split at h
    · split at h
      · split at h
        · exact compL_ok h
        · cases h
      · exact compL_ok h
      · cases h
    · cases h
theorem compL_cons {α β : Type} {own : List Nat} {f : α → Sg → Rs (Option β)} {x : α} {r : List α} {acc : List β} {s s' : Sg} {o : Lk.R (List β)} (h : compL own f (x :: r) acc s = some (o, s')) : noOwn s.env own = true ∧ ∃ z s1, f x { s with env := wipeE s.env own } = some (.ok z, s1) ∧
    match z with
    | some y => acc.length < SL ∧ compL own f r (acc ++ [y]) { s1 with env := backE s.env s1.env own } = some (o, s')
    | none => compL own f r acc { s1 with env := backE s.env s1.env own } = some (o, s') := by
  unfold compL at h
  split at h
  · rename_i hn
    refine ⟨hn, ?_⟩
    split at h
    · rename_i y s1 he
      split at h
      · exact ⟨_, s1, he, by assumption, h⟩
      · cases h
    · rename_i s1 he
      exact ⟨_, s1, he, h⟩
    · cases h
  · cases h
end Lk

namespace Lk
open PySem L2 PySem.Spec PyProof.Rows
theorem sw_false {elt : Expr} {gs : List Comprehension} {scope : Scope} {pos py : Pos} {y : Str} {l : Nat} {env : Env} (hk : env.scope.kind = .function)
    (hn : ¬ (env.scope.names.lookup y = some .local ∧ (py.line == pos.line) = true ∧ (scope.names.any fun (n, k) => n == y && (k == .local || k == .cell)) = false)) :
    swapsWith (.ListComp elt gs scope pos) (some (.Name y py)) l env = pure false := by
  have hb : env.blockKind = .function := by unfold Env.blockKind; rw [hk]; rfl
  unfold swapsWith
  simp only [hb]
  show (pure _ : Sem Bool) = _
  congr 1
  by_cases h1 : env.scope.names.lookup y = some .local
  · by_cases h2 : (py.line == pos.line) = true
    · have h3 : (scope.names.any fun (n, k) => n == y && (k == .local || k == .cell)) = true := by
        cases e : (scope.names.any fun (n, k) => n == y && (k == .local || k == .cell)) with
        | true => rfl
        | false => exact absurd ⟨h1, h2, e⟩ hn
      simp [h3]
    · have h2' : (py.line == (Expr.ListComp elt gs scope pos).pos.line) = false := by
        cases e : (py.line == pos.line) with
        | true => exact absurd e h2
        | false => exact e
      simp only [h2', Bool.and_false, Bool.false_and]
  · have h1' : (env.kindOf y == some .local) = false := by
      show (env.scope.names.lookup y == some .local) = false
      rw [beq_eq_false_iff_ne]; exact h1
    simp only [h1', Bool.and_false, Bool.false_and]
theorem ownP_snd {N : List Str} {own : List Nat} : (ownP N own).map (·.2) = own := by
  unfold ownP
  rw [List.map_map]
  exact (List.map_congr_left fun _ _ => rfl).trans (List.map_id own)
section
variable {cl : String → Option Addr} {X : Cx} {c : Kx} {k : Nat} {Wx : WX} {F : Fn} {p : Expr}
theorem Gd.blk (g : Gd cl X c k Wx F) {scope : Scope} {own : List (Str × Nat)} (ok : BlkOk X.N X.env.scope scope own) (s : Shared) (H : Hp) (C : Addr) (cs : List (Str × Addr)) (fp : List Addr) :
    Gd cl (X.blk s H scope (compEnvC scope cs C X.env) fp) (subK c scope) k (fun _ _ _ _ => False) F := by
  refine ⟨g.N, g.nd, ?_, ok.kind, g.calm, g.room, ?_, fun x hx => ?_, g.blt, g.self⟩
  · show relS scope X.env.scope = _
    rw [g.sc]; rfl
  · rintro u s' ⟨a, B, sI, pins, σ, H, cls, d, e, I, nb, up, sky, na, os, ag, w⟩
    exact w.elim
  · show (scope.names.lookup x == some .cell) = true
    have hx' : x ∈ (scope.names.filter fun y => decide (y.2 = .cell)).map (·.1) := hx
    rw [List.mem_map] at hx'
    obtain ⟨y, hy, rfl⟩ := hx'
    rw [List.mem_filter] at hy
    have e := ok.uniq y hy.1
    have e2 : y.2 = .cell := by simpa using hy.2
    rw [e, e2]; rfl
theorem wipe_wipe {σ : L2.St} {own : List Nat} : L2.wipe (L2.wipe σ own) own = L2.wipe σ own := by
  refine List.ext_getElem? fun i => ?_
  rw [wipe_get, wipe_get, wipe_length]
  split
  · rfl
  · rfl
/-- one turn's work -/
def turnS (F : Fn) (t : XT) (d e : XE) (x : PV) (s : Sg) : Rs (Option PV) := op1 (bindT t x s) fun s => bd (tst d (evR d F s) s) fun b s => match b with
  | true => bd (fz (evR e F s)) fun v s => rt (some v) s
  | false => rt none s
theorem jg_lc {wi : TI} {gg : TG} {tt : TT} {te : TE} {own : List Nat} {t : XT} {it : XI} {d e : XE} (Ji : JG X.K cl Wx wi (evI it F) (rIt X.K cl)) (og : GOk cl X t gg) (ho : ∀ i ∈ tgIx t, i ∈ own)
    (Jd : JG X.K cl (fun _ _ _ _ => False) tt (fun s => tst d (evR d F s) s) rBl) (Je : JG X.K cl (fun _ _ _ _ => False) te (fun s => fz (evR e F s)) (rVal X.K cl)) :
    JG X.K cl Wx (tLc wi gg tt te own) (evR (.comp own t it d e) F) (rRes X.K cl) := by
  intro W0 H0 W s σ H Q out s' R h hok hx
  refine Ji.go R h hx (fun xs s1 h1 J W1 H1 l1 R1 wp => ?_)
  intro D hD
  have h1 : bd (compL own (turnS F t d e) xs [] s1) (fun ys s => rt (PV.lst ys, true) s) = some (out, s') := h1
  rcases bd_cases h1 with ⟨ys, s2, hc, h2⟩ | ⟨cc, fs, hc, _⟩
  rotate_left
  · obtain ⟨ys, e⟩ := compL_ok hc; cases e
  obtain ⟨rfl, rfl⟩ := rt_inj h2
  obtain ⟨G, Y, w, hG, hY⟩ := wp
  have d1 := R1.df_new hD
  refine lc_it w (fun i H => ∃ W' s3 acc accV, W1.le W' ∧ Rl X.K cl W0 H0 W' s3 σ H ∧ H D = some (.lst accV) ∧ DF W0 H0 W' s3 σ D ∧ RepL X.K cl W' acc accV ∧ compL own (turnS F t d e) (xs.drop i) acc s3 = some (.ok ys, s')) ?_ ?_ ?_ ?_
  · exact ⟨W1, s1, [], [], .refl _, R1.step (Ext.alloc hD) (R1.rm.alloc hD), upd_same, d1, RepL.nil, by simpa using hc⟩
  · rintro i H hi ⟨W', s3, acc, accV, l, R3, _⟩
    exact hG W' H l R3.rm.sub
  · rintro i x H H' hi ⟨W', s3, acc, accV, l, R3, hDe, dD, ra, hc⟩ hy
    obtain ⟨p, hp, new⟩ := hY i H x H' hi hy W' l R3.rm.sub
    have hdr : xs.drop i = p :: xs.drop (i + 1) := by
      have hi' := (List.getElem?_eq_some_iff.mp hp)
      obtain ⟨h1, h2⟩ := hi'
      rw [List.drop_eq_getElem_cons h1, h2]
    rw [hdr] at hc
    obtain ⟨hno, z, s4, hf, hz⟩ := compL_cons hc
    have fW0 := dD.f0 R3.si.le
    have R4 := (R3.root dD hDe).wipe (own := own)
    obtain ⟨W2, l2, R5, r5⟩ := fin_new R4 new
    have r5' : Rep X.K cl W2 p x := r5
    obtain ⟨s5, hb, hf2⟩ := op1_cases hf
    refine og _ _ W2 _ s5 _ H' x p _ R5 r5' hb fun σ2 R6 hw => ?_
    have hw' : L2.wipe σ2 own = L2.wipe σ own := (hw own ho).trans wipe_wipe
    refine ⟨hw', ?_⟩
    -- back to the frame
    have back : ∀ {W6 : Wd} {s6 : Sg} {H6 : Hp}, W'.le W6 → Rl X.K cl W0 (upd H0 D (.lst accV)) W6 s6 σ2 H6 → H6 D = some (.lst accV) ∧ DF W0 H0 W6 { s6 with env := backE s3.env s6.env own } σ D ∧ Rl X.K cl W0 H0 W6 { s6 with env := backE s3.env s6.env own } σ H6 := fun {W6 s6 H6} l6 R6 =>
      (R3.unwipe hno R6 l6 hw').unroot dD.z fW0.1 fW0.2
    refine Jd.go R6 hf2 (fun cc fs e => nomatch e) (fun b s6 h6 b' W6 H6 l6 R7 eb => ?_)
    cases (show b' = b from eb)
    cases b with
    | false =>
      obtain ⟨ez, es⟩ := rt_inj (show rt (none : Option PV) s6 = _ from h6)
      have ez' : z = none := by injection ez
      subst ez' es
      obtain ⟨e1, d2, R8⟩ := back (l2.trans l6) R7
      show ∃ _, _
      exact ⟨W6, _, acc, accV, l.trans (l2.trans l6), R8, e1, d2, RepL.mono (l2.trans l6) _ _ ra, hz⟩
    | true =>
      refine Je.go R7 h6 (fun cc fs e => nomatch e) (fun v s7 h7 y W7 H7 l7 R8 ry => ?_)
      obtain ⟨ez, es⟩ := rt_inj h7
      have ez' : z = some v := by injection ez
      subst ez' es
      obtain ⟨hlen, hz⟩ := hz
      obtain ⟨e1, d2, R9⟩ := back (l2.trans (l6.trans l7)) R8
      have la := (l2.trans (l6.trans l7))
      refine ⟨accV, e1, by rw [← SL_eq, ← ra.length]; exact hlen, W7, _, acc ++ [v], accV ++ [y], l.trans la, R9.poke d2 e1 (fun x q => nomatch q), upd_same, d2, (RepL.mono la _ _ ra).append (RepL.cons ry RepL.nil), hz⟩
  · rintro H ⟨W', s3, acc, accV, l, R3, hDe, dD, ra, hc⟩
    have hdr : xs.drop xs.length = [] := by simp
    rw [hdr] at hc
    obtain ⟨ey, es⟩ := rt_inj (show rt acc s3 = _ from hc)
    have ey' : ys = acc := by injection ey
    subst ey' es
    refine hok _ rfl _ W' H (l1.trans l) R3 ?_
    show Res X.K cl W0 H0 W' s' σ H _ _
    unfold Res
    exact ⟨D, rfl, ⟨⟨accV, hDe, ra⟩, dD.f, dD.i, dD.z, dD.o⟩⟩
/-- one reading for many contexts -/
theorem uniE {ι : Type} {f : ι → Cx} {K : PySem.W.Frag} {α : Type} {m : Sg → Rs α} {rel : RR α V} (h : ∀ i, ∃ te, PE (f i) p te ∧ JG K cl Wx te m rel) : ∃ te, (∀ i, PE (f i) p te) ∧ JG K cl Wx te m rel :=
  ⟨fun σ H Q => ∀ i, ∃ te, PE (f i) p te ∧ te σ H Q, fun i => ⟨fun pins s σ H Q I q => let ⟨_, hp, ht⟩ := q i; hp.run pins s σ H Q I ht⟩,
    fun W0 H0 W s σ H Q out s' R e hok hx i => let ⟨te, hp, J⟩ := h i; ⟨te, hp, J W0 H0 W s σ H Q out s' R e hok hx⟩⟩
theorem uniT {ι : Type} {f : ι → Cx} {K : PySem.W.Frag} {α : Type} {m : Sg → Rs α} {rel : RR α Bool} (h : ∀ i, ∃ tt, PT (f i) p tt ∧ JG K cl Wx tt m rel) : ∃ tt, (∀ i, PT (f i) p tt) ∧ JG K cl Wx tt m rel :=
  ⟨fun σ H Q => ∀ i, ∃ te, PT (f i) p te ∧ te σ H Q, fun i => ⟨fun pins s σ H Q I q => let ⟨_, hp, ht⟩ := q i; hp.run pins s σ H Q I ht⟩,
    fun W0 H0 W s σ H Q out s' R e hok hx i => let ⟨te, hp, J⟩ := h i; ⟨te, hp, J W0 H0 W s σ H Q out s' R e hok hx⟩⟩
theorem uniG {ι : Type} {f : ι → Cx} {t : XT} (hk : ∀ i, (f i).K = X.K) (h : ∀ i, ∃ g, PG (f i) p g ∧ GOk cl (f i) t g) : ∃ g, (∀ i, PG (f i) p g) ∧ GOk cl X t g :=
  ⟨fun v σ H Q => ∀ i, ∃ g, PG (f i) p g ∧ g v σ H Q, fun i => ⟨fun pins s σ H v u Q I r q => let ⟨_, hp, ht⟩ := q i; hp.run pins s σ H v u Q I r ht⟩,
    fun W0 H0 W s s' σ H v q Q R hr hb hq i => let ⟨g, hp, J⟩ := h i; ⟨g, hp, J W0 H0 W s s' σ H v q Q (by rw [hk]; exact R) (by rw [hk]; exact hr) hb (fun σ' R' => hq σ' (by rw [hk] at R'; exact R'))⟩⟩
theorem jg_yes : JG X.K cl (fun _ _ _ _ => False) tYes (fun s => tst (.cst (.bl true)) (evR (.cst (.bl true)) F s) s) rBl := by
  intro W0 H0 W s σ H Q out s' R h hok hx
  obtain ⟨rfl, rfl⟩ := rt_inj (show rt true s = _ from h)
  exact hok _ rfl true W H (.refl W) R rfl
theorem bl_true {d : XE} (h : (match d with | .cst (.bl true) => true | _ => false) = true) : d = .cst (.bl true) := by
  split at h
  · rfl
  · cases h
theorem sv_comp {own : List Nat} {t : XT} {it : XI} {d e : XE} (S : SI it) (Sd : SE d) (Se : SV e) : SV (.comp own t it d e) := fun {cl X c k Wx F p} g h nd => by
  match p, h with
  | .ListComp pe [⟨pt, pi, ifs, 0⟩] scope pos, h =>
    obtain ⟨h1, h⟩ := and_t h
    obtain ⟨h2, h⟩ := and_t h
    obtain ⟨h3, h⟩ := and_t h
    obtain ⟨h4, h⟩ := and_t h
    obtain ⟨h5, h⟩ := and_t h
    obtain ⟨h6, h7⟩ := and_t h
    have ho : ∀ i ∈ tgIx t, i ∈ own := fun i hi => by
      have := List.all_eq_true.mp h3 i hi
      simpa using this
    have ok : BlkOk X.N X.env.scope scope (ownP c.N own) := by
      rw [g.N, g.sc]; exact blkOk_by h2
    obtain ⟨wi, hpi, Ji⟩ := S g h5 nd.1
    let fam : Shared × Hp × Addr × List (Str × Addr) × List Addr → Cx := fun q => X.blk q.1 q.2.1 scope (compEnvC scope q.2.2.2.1 q.2.2.1 X.env) q.2.2.2.2
    have gb : ∀ q, Gd cl (fam q) (subK c scope) k (fun _ _ _ _ => False) F := fun q => g.blk ok _ _ _ _ _
    obtain ⟨gg, hg, og⟩ := uniG (cl := cl) (X := X) (f := fam) (t := t) (p := pt) (fun _ => rfl) (fun q => sg t (gb q) h4)
    obtain ⟨te, he, Je⟩ := uniE (f := fam) (K := X.K) (cl := cl) (p := pe) (Wx := fun _ _ _ _ => False) (m := fun s => fz (evR e F s)) (rel := rVal X.K cl) (fun q => Se.je (gb q) h6 nd.2.2)
    have tests : ∃ tt, (∀ q, PTs (fam q) ifs tt) ∧ JG X.K cl (fun _ _ _ _ => False) tt (fun s => tst d (evR d F s) s) rBl := by
      match ifs, h7 with
      | [], h7 =>
        have ed : d = .cst (.bl true) := bl_true h7
        subst ed
        exact ⟨tYes, fun _ => pts_nil, jg_yes⟩
      | [pd], h7 =>
        obtain ⟨h7, h8⟩ := and_t h7
        obtain ⟨tt, ht, Jd⟩ := uniT (f := fam) (K := X.K) (cl := cl) (p := pd) (Wx := fun _ _ _ _ => False) (m := fun s => tst d (evR d F s) s) (rel := rBl) (fun q => let ⟨tt, a, _, b⟩ := Sd.pt (gb q) h8 h7 nd.2.1; ⟨tt, a, b⟩)
        exact ⟨tt, fun q => pts_one (ht q), Jd⟩
      | _ :: _ :: _, h7 => exact ff h7
    obtain ⟨tt, ht, Jd⟩ := tests
    have hp := pe_lc (pos := pos) g.calm g.nd hpi ok (fun s H C cs fp => hg (s, H, C, cs, fp)) (fun s H C cs fp => ht (s, H, C, cs, fp)) (fun s H C cs fp => he (s, H, C, cs, fp)) (no_fold h1)
    rw [ownP_snd] at hp
    refine ⟨_, hp, ?_, jg_lc Ji og ho Jd Je⟩
    intro i y py spos hi hl
    by_cases hn : X.env.scope.names.lookup y = some .local ∧ (py.line == pos.line) = true ∧ (scope.names.any fun (n, k) => n == y && (k == .local || k == .cell)) = false
    · have q := ps_setLc (pos := pos) (spos := spos) (py := py) g.calm g.nd hi hn.1 (sw_true g.kind hn.1 hn.2.1 hn.2.2) hpi ok (fun s H C cs fp => hg (s, H, C, cs, fp)) (fun s H C cs fp => ht (s, H, C, cs, fp)) (fun s H C cs fp => he (s, H, C, cs, fp)) (no_fold h1)
      rw [ownP_snd] at q
      exact q
    · obtain ⟨l1, l2⟩ := g.loc hl
      exact ps_set g.nd hi l1 hp (sw_false g.kind hn) l2
end
end Lk

namespace Lk
open PySem L2 PySem.Spec PyProof.Rows
theorem kit_all : ∀ T ∈ tyN, ∀ c ∈ btN, kitB T c = some (T == c || (c == "int" && T == "bool")) := by decide +kernel
def clsV' (cl : String → Option Addr) (c : String) : V := if c ∈ btN then .ty c else match cl c with
  | some C => .ref C
  | none => .non
section
variable {cl : String → Option Addr} {X : Cx} {c : Kx} {k : Nat} {Wx : WX} {F : Fn}
def tLit (vs : List V) : TA := fun _ H Q => Q vs H
theorem boot_bt : ∀ c ∈ btN, bootBuiltins (c : Str) = some (.type c) := by
  intro c hc
  simp only [btN, List.mem_cons, List.not_mem_nil, or_false] at hc
  rcases hc with rfl | rfl | rfl | rfl | rfl | rfl <;> rfl
theorem bt_names : ∀ c ∈ btN, (c : Str) ∈ bltNames := by decide +kernel
theorem bt_ty : ∀ c ∈ btN, c ∈ tyN := by decide +kernel
theorem cls_ok (g : Gd cl X c k Wx F) {s : String} {pos : Pos} (hg : glB c (s : Str) = true) (h : s ∈ btN ∨ s ∉ tyN ∧ ∃ C, cl s = some C ∧ X.mg s = some (.ref C) ∧ ∀ T ∈ tyN, PySem.W.kitOne X.K (.type T) (.ref C) = some false) :
    PE X (.Name (s : Str) pos) (tC (clsV' cl s)) ∧ ClsV (clsV' cl s) (clsVal (gv cl X) s) := by
  obtain ⟨g1, g2, g3⟩ := g.gl hg
  unfold clsV' clsVal
  rcases h with h | ⟨h, C, e1, e2, _⟩
  · rw [if_pos h, if_pos h]
    exact ⟨pe_bltn g1 (g.blt _ (bt_names s h)) (boot_bt s h) rfl g3 g2, .ty s⟩
  · have h := fun q => h (bt_ty s q)
    rw [if_neg h, if_neg h]
    simp only [e1]
    exact ⟨pe_glob g1 e2 rfl g2, .own C⟩
theorem nms_ok (g : Gd cl X c k Wx F) : ∀ {cs : List String} {ps : List Expr}, nmsB c cs ps = true → (∀ s ∈ cs, s ∈ btN ∨ s ∉ tyN ∧ ∃ C, cl s = some C ∧ X.mg s = some (.ref C) ∧ ∀ T ∈ tyN, PySem.W.kitOne X.K (.type T) (.ref C) = some false) →
    (∃ t, PA X ps t ∧ ∀ σ H Q, Q (cs.map (clsV' cl)) H → t σ H Q) ∧ Paired ClsV (cs.map (clsV' cl)) (cs.map (clsVal (gv cl X)))
  | [], ps, h, hs => by
    cases ps with
    | nil => exact ⟨⟨_, pa_nil, fun _ _ _ q => q⟩, .nil⟩
    | cons p q => cases p <;> exact ff h
  | s :: r, ps, h, hs => by
    cases ps with
    | nil => exact ff h
    | cons p q =>
      cases p with
      | Name x pos =>
        obtain ⟨h1, h20⟩ := and_t h
        obtain ⟨h2, h3⟩ := and_t h20
        have ex : x = (s : Str) := dec_t h1
        subst ex
        obtain ⟨⟨t, pt, ht⟩, pr⟩ := nms_ok g h3 fun s' hs' => hs s' (List.mem_cons_of_mem _ hs')
        obtain ⟨pe, cv⟩ := cls_ok (pos := pos) g h2 (hs s List.mem_cons_self)
        exact ⟨⟨_, pa_cons pe pt rfl, fun σ H Q hq => ht σ H _ hq⟩, .cons cv pr⟩
      | _ => exact ff h
/-- the type that is met -/
theorem kit_val {ds cs : List String} {W : Wd} {H : Hp} {v : PV} {x : V} {b : Bool} (sub : Sub W H) (hn : IsN (gv cl X) ds cs) (h : RH X.K cl W H x v) (e : isinP ds cs v = some b) : ∃ t, (∀ H', (∀ a o, H a = some o → H' a = some o) → TyX X.K H' x t) ∧ PySem.W.kitAny X.K t (cs.map (clsVal (gv cl X))) = some b := by
  have gen : ∀ T : String, T ∈ tyN → (∀ c, isOf v c = (T == c || (c == "int" && T == "bool"))) → ∀ l : List String, (∀ c ∈ l, c ∈ cs) → PySem.W.kitAny X.K (.type T) (l.map (clsVal (gv cl X))) = some (l.any fun c => isOf v c) := fun T hT ho l => by
    induction l with
    | nil => intro _; rfl
    | cons s r ih =>
      intro hl
      have ih := ih fun c hc => hl c (List.mem_cons_of_mem _ hc)
      have h1 : PySem.W.kitOne X.K (.type T) (clsVal (gv cl X) s) = some (isOf v s) := by
        rcases hn.1 s (hl s List.mem_cons_self) with hb | ⟨hb, C, e1, _, e3⟩
        · unfold clsVal
          rw [if_pos hb, ho]
          exact kit_ty (kit_all T hT s hb)
        · have e1' : cl s = some C := e1
          unfold clsVal
          rw [if_neg (fun q => hb (bt_ty s q))]
          show PySem.W.kitOne X.K (.type T) (match cl s with | some C => Value.ref C | none => .none) = _
          rw [e1', ho]
          have n1 : (T == s) = false := by rw [beq_eq_false_iff_ne]; rintro rfl; exact hb hT
          have n2 : (s == "int") = false := by rw [beq_eq_false_iff_ne]; rintro rfl; exact hb (by decide +kernel)
          rw [n1, n2]
          exact e3 T hT
      rw [List.map_cons, List.any_cons]
      refine kitAny_cons h1 (fun q => by rw [q, Bool.false_or]; exact ih) (fun q => by rw [q, Bool.true_or])
  have fin : ∀ T : String, T ∈ tyN → (∀ c, isOf v c = (T == c || (c == "int" && T == "bool"))) → isinP ds cs v = some (cs.any fun c => isOf v c) → PySem.W.kitAny X.K (.type T) (cs.map (clsVal (gv cl X))) = some b := fun T hT ho he => by
    rw [gen T hT ho cs (fun _ h => h), ← he, e]
  cases v with
  | non =>
    have h' : Rep X.K cl W .non x := h
    unfold Rep at h'; subst h'
    exact ⟨.type "NoneType", fun H' k => .base .non, fin _ (by decide +kernel) (fun _ => rfl) rfl⟩
  | bl y =>
    have h' : Rep X.K cl W (.bl y) x := h
    unfold Rep at h'; subst h'
    exact ⟨.type "bool", fun H' k => .base (.bl _), fin _ (by decide +kernel) (fun c => by unfold isOf tyName; simp) rfl⟩
  | int y =>
    have h' : Rep X.K cl W (.int y) x := h
    unfold Rep at h'; subst h'
    exact ⟨.type "int", fun H' k => .base (.int _), fin _ (by decide +kernel) (fun c => by unfold isOf tyName; simp) rfl⟩
  | str y =>
    have h' : Rep X.K cl W (.str y) x := h
    unfold Rep at h'; subst h'
    exact ⟨.type "str", fun H' k => .base (.str _), fin _ (by decide +kernel) (fun c => by unfold isOf tyName; simp) rfl⟩
  | tup y =>
    have h' : Rep X.K cl W (.tup y) x := h
    unfold Rep at h'
    obtain ⟨a, xs, rfl, ea, _⟩ := h'
    exact ⟨.type "tuple", fun H' k => .base (.tup (k _ _ (sub _ _ ea))), fin _ (by decide +kernel) (fun c => by unfold isOf tyName; simp) rfl⟩
  | lst y =>
    obtain ⟨a, xs, rfl, ea, _⟩ := h
    exact ⟨.type "list", fun H' k => .base (.lst (k _ _ ea)), fin _ (by decide +kernel) (fun c => by unfold isOf tyName; simp) rfl⟩
  | dic t y =>
    cases t with
    | true => cases e
    | false =>
      obtain ⟨a, l, rfl, ea, _⟩ := h
      refine ⟨.type "dict", fun H' k => ?_, fin _ (by decide +kernel) (fun c => by unfold isOf tyName; simp) rfl⟩
      rcases ea with ea | ⟨o, ea⟩
      · exact .base (.dK (k _ _ ea))
      · exact .fDict (k _ _ ea)
  | ins D fs =>
    obtain ⟨a, d, dx, l, rfl, ea, ed, ec, _⟩ := h
    have e : (if D ∈ ds then some (cs.any fun c => D == c) else none) = some b := e
    split at e
    · rename_i hD
      cases e
      obtain ⟨d', e1, e2, e3⟩ := hn.2 D hD
      have : d = d' := by
        have := ec.symm.trans e1
        simpa using this
      subst this
      refine ⟨.ref d, fun H' k => e2 H' a dx l (k _ _ ea), ?_⟩
      have all : ∀ l : List String, (∀ c ∈ l, c ∈ cs) → PySem.W.kitAny X.K (.ref d) (l.map (clsVal (gv cl X))) = some (l.any fun c => D == c) := fun l => by
        induction l with
        | nil => intro _; rfl
        | cons s r ih =>
          intro hl
          have ih := ih fun c hc => hl c (List.mem_cons_of_mem _ hc)
          rw [List.map_cons, List.any_cons]
          exact kitAny_cons (e3 s (hl s List.mem_cons_self)) (fun q => by rw [q, Bool.false_or]; exact ih) (fun q => by rw [q, Bool.true_or])
      exact all cs fun _ h => h
    · cases e
  | ref _ => cases e
  | scr _ => cases e
  | ktp _ => cases e
theorem kit_one {K : PySem.W.Frag} {t u : Value} {b : Bool} (h : PySem.W.kitAny K t [u] = some b) : PySem.W.kitOne K t u = some b := by
  unfold PySem.W.kitAny at h
  split at h
  · rename_i q; rw [q]; exact h
  · rename_i q; rw [q]; exact h
  · cases h
theorem sv_isin {a : XE} {ds cs : List String} (Sa : SV a) : SV (.isin a ds cs) := fun {cl X c k Wx F p} g h nd => by
  obtain ⟨nd, hn⟩ := nd
  cases p with
  | Call fe ps kws pos =>
    cases fe with
    | Name x px =>
      match ps, kws, h with
      | [pa, pc], [], h =>
        obtain ⟨h1, h20⟩ := and_t h
        obtain ⟨h2, h30⟩ := and_t h20
        obtain ⟨h3, h40⟩ := and_t h30
        obtain ⟨h4, h5⟩ := and_t h40
        cases (dec_t h1)
        obtain ⟨g1, g2, g3⟩ := g.gl h2
        obtain ⟨ta, pa', Ja⟩ := Sa.jp g h4 nd
        have hmI : X.mg "isinstance" = none := g.blt _ (by decide +kernel)
        unfold clsB at h5
        split at h5
        · rename_i y pos'
          match cs, h5, hn with
          | [s], h5, hn =>
            obtain ⟨h6, h70⟩ := and_t h5
            obtain ⟨h7, _⟩ := and_t h70
            have ex : y = (s : Str) := dec_t h6
            subst ex
            obtain ⟨pe, cv⟩ := cls_ok (pos := pos') g h7 (hn.1 s List.mem_cons_self)
            have hp := pe_callB (pos := pos) (p := px) call_isi g1 hmI rfl (pa_cons pa' (pa_cons pe pa_nil rfl) (star_cons h3)) g3 g2 (star_cons h3) rfl
            refine ⟨_, hp, asg_of g hp rfl, ?_⟩
            intro W0 H0 W s0 σ H Q out s' R h hok hx
            refine Ja.go R h hx (fun pl s1 h1 x W1 H1 l1 R1 rp => ?_)
            obtain ⟨v, ev, h2⟩ := op1_cases h1
            obtain ⟨b, eb, h3⟩ := op1_cases h2
            obtain ⟨rfl, rfl⟩ := rt_inj h3
            obtain ⟨t, ty, ka⟩ := kit_val (X := X) R1.rm.sub hn (look_ok R1 rp ev) eb
            have k1 : PySem.W.kitOne X.K t (clsVal (gv cl X) s) = some b := kit_one ka
            exact ⟨x, _, t, _, b, rfl, cv, ty H1 (fun _ _ h => h), k1, hok _ rfl _ W1 H1 l1 R1 (res_val (by unfold Rep; rfl))⟩
          | [], h5, _ => exact ff h5
          | _ :: _ :: _, h5, _ => exact ff (and_t (and_t h5).2).2
        · rename_i ps' kk tpos
          obtain ⟨hlen, h5⟩ := and_t h5
          have hlen : cs.length ≤ 30 := dec_t hlen
          obtain ⟨⟨t, pt, ht⟩, pr⟩ := nms_ok g h5 hn.1
          have hp := pe_callB (pos := pos) (p := px) call_isiT g1 hmI rfl (pa_cons pa' (pa_cons (pe_tup (x1 := kk) (pos := tpos) pt) pa_nil rfl) (star_cons h3)) g3 g2 (star_cons h3) rfl
          refine ⟨_, hp, asg_of g hp rfl, ?_⟩
          intro W0 H0 W s0 σ H Q out s' R h hok hx
          refine Ja.go R h hx (fun pl s1 h1 x W1 H1 l1 R1 rp => ?_)
          obtain ⟨v, ev, h2⟩ := op1_cases h1
          obtain ⟨b, eb, h3⟩ := op1_cases h2
          obtain ⟨rfl, rfl⟩ := rt_inj h3
          obtain ⟨t', ty, ka⟩ := kit_val (X := X) R1.rm.sub hn (look_ok R1 rp ev) eb
          refine ht σ H1 _ ⟨?_, fun q hq => ?_⟩
          · rw [List.length_map, sizeLine_eq]; omega
          · exact ⟨x, q, _, t', _, b, rfl, upd_same, pr, ty _ (fun a o h => by rw [upd_ne (ne_of_none h hq)]; exact h), ka, hok _ rfl _ W1 _ l1 (R1.step (Ext.alloc hq) (R1.rm.alloc hq)) (res_val (by unfold Rep; rfl))⟩
        · exact ff h5
      | [], _, h => exact ff h
      | [_], _, h => exact ff h
      | _ :: _ :: _ :: _, _, h => exact ff h
      | [_, _], _ :: _, h => exact ff h
    | _ => exact ff h
  | _ => exact ff h
end
end Lk

namespace Lk
open PySem L2 PySem.Spec PyProof.Rows
section
variable {K : PySem.W.Frag} {cl : String → Option Addr} {W : Wd}
theorem repK_any {k : Key} : ∀ {kvs : List (DKey × PV)} {l : List (Key × V)}, RepK K cl W kvs l → (kvs.any fun e => decide (e.1 = .inl k)) = l.any fun e => decide (e.1 = k)
  | [], l, h => by unfold RepK at h; subst h; rfl
  | (k0, p) :: r, l, h => by
    unfold RepK at h
    obtain ⟨k', x, t, rfl, e1, e2, e3⟩ := h
    subst e1
    rw [List.any_cons, List.any_cons, repK_any e3]
    congr 1
    by_cases e : k' = k
    · subst e; simp
    · simp [e]
theorem repK_map {k : Key} {p : PV} {v : V} (hv : Rep K cl W p v) : ∀ {kvs : List (DKey × PV)} {l : List (Key × V)}, RepK K cl W kvs l → RepK K cl W (kvs.map fun e => if e.1 = .inl k then (e.1, p) else e) (l.map fun e => if e.1 = k then (e.1, v) else e)
  | [], l, h => by unfold RepK at h; subst h; unfold RepK; rfl
  | (k0, q) :: r, l, h => by
    unfold RepK at h
    obtain ⟨k', x, t, rfl, e1, e2, e3⟩ := h
    subst e1
    rw [List.map_cons, List.map_cons]
    by_cases e : k' = k
    · subst e
      simp only [if_true]
      unfold RepK
      exact ⟨_, v, _, rfl, rfl, hv, repK_map hv e3⟩
    · have e' : ¬ ((Sum.inl k' : DKey) = Sum.inl k) := fun q => e (Sum.inl.inj q)
      simp only [if_neg e, if_neg e']
      unfold RepK
      exact ⟨_, x, _, rfl, rfl, e2, repK_map hv e3⟩
theorem repK_put {k : Key} {p : PV} {v : V} (hv : Rep K cl W p v) {kvs : List (DKey × PV)} {l : List (Key × V)} (h : RepK K cl W kvs l) : RepK K cl W (dput kvs (.inl k) p) (putK l k v) := by
  unfold dput putK
  rw [repK_any h]
  split
  · exact repK_map hv h
  · exact repK_app hv h
theorem repT_any {k : List Key} : ∀ {kvs : List (DKey × PV)} {l : List (List Key × V)}, RepT K cl W kvs l → (kvs.any fun e => decide (e.1 = .inr k)) = l.any fun e => decide (e.1 = k)
  | [], l, h => by unfold RepT at h; subst h; rfl
  | (k0, p) :: r, l, h => by
    unfold RepT at h
    obtain ⟨k', x, t, rfl, e1, e2, e3⟩ := h
    subst e1
    rw [List.any_cons, List.any_cons, repT_any e3]
    congr 1
    by_cases e : k' = k
    · subst e; simp
    · simp [e]
theorem repT_map {k : List Key} {p : PV} {v : V} (hv : Rep K cl W p v) : ∀ {kvs : List (DKey × PV)} {l : List (List Key × V)}, RepT K cl W kvs l → RepT K cl W (kvs.map fun e => if e.1 = .inr k then (e.1, p) else e) (l.map fun e => if e.1 = k then (e.1, v) else e)
  | [], l, h => by unfold RepT at h; subst h; unfold RepT; rfl
  | (k0, q) :: r, l, h => by
    unfold RepT at h
    obtain ⟨k', x, t, rfl, e1, e2, e3⟩ := h
    subst e1
    rw [List.map_cons, List.map_cons]
    by_cases e : k' = k
    · subst e
      simp only [if_true]
      unfold RepT
      exact ⟨_, v, _, rfl, rfl, hv, repT_map hv e3⟩
    · have e' : ¬ ((Sum.inr k' : DKey) = Sum.inr k) := fun q => e (Sum.inr.inj q)
      simp only [if_neg e, if_neg e']
      unfold RepT
      exact ⟨_, x, _, rfl, rfl, e2, repT_map hv e3⟩
theorem repT_app {kk : List Key} {d : PV} {y : V} (hy : Rep K cl W d y) : ∀ {kvs : List (DKey × PV)} {l : List (List Key × V)}, RepT K cl W kvs l → RepT K cl W (kvs ++ [(.inr kk, d)]) (l ++ [(kk, y)])
  | [], l, h => by
    unfold RepT at h; subst h
    show RepT K cl W [(.inr kk, d)] [(kk, y)]
    unfold RepT
    exact ⟨kk, y, [], rfl, rfl, hy, by unfold RepT; rfl⟩
  | (k, p) :: r, l, h => by
    unfold RepT at h
    obtain ⟨k', x, t, rfl, e1, e2, e3⟩ := h
    show RepT K cl W ((k, p) :: (r ++ _)) ((k', x) :: (t ++ _))
    unfold RepT
    exact ⟨k', x, _, rfl, e1, e2, repT_app hy e3⟩
theorem repT_put {k : List Key} {p : PV} {v : V} (hv : Rep K cl W p v) {kvs : List (DKey × PV)} {l : List (List Key × V)} (h : RepT K cl W kvs l) : RepT K cl W (dput kvs (.inr k) p) (putK l k v) := by
  unfold dput putK
  rw [repT_any h]
  split
  · exact repT_map hv h
  · exact repT_app hv h
theorem repK_merge : ∀ {more : List (DKey × PV)} {l : List (Key × V)} {kvs : List (DKey × PV)} {l0 : List (Key × V)}, RepK K cl W more l → RepK K cl W kvs l0 → RepK K cl W (mergeD kvs more) (mergeK l0 l)
  | [], l, kvs, l0, h, h0 => by unfold RepK at h; subst h; exact h0
  | (k, p) :: r, l, kvs, l0, h, h0 => by
    unfold RepK at h
    obtain ⟨k', x, t, rfl, e1, e2, e3⟩ := h
    subst e1
    show RepK K cl W (mergeD (dput kvs (.inl k') p) r) (mergeK (putK l0 k' x) t)
    exact repK_merge e3 (repK_put e2 h0)
/-- pairs, flat -/
def flatV : List (V × V) → List V
  | [] => []
  | (x, y) :: r => x :: y :: flatV r
theorem mkDic_rep {H : Hp} (sub : Sub W H) : ∀ {ps : List (V × V)} {vs : List PV} {kvs : List (DKey × PV)}, RepL K cl W vs (flatV ps) → mkDic vs = some kvs → ∃ l : List (Key × V), ps = l.map (fun kv => (kV kv.1, kv.2)) ∧ RepK K cl W kvs l
  | [], vs, kvs, h, e => by
    cases vs with
    | nil => cases e; exact ⟨[], rfl, by unfold RepK; rfl⟩
    | cons _ _ => unfold RepL at h; obtain ⟨x, t, e, _⟩ := h; cases e
  | (x, y) :: r, vs, kvs, h, e => by
    match vs, h, e with
    | [], h, e => unfold RepL at h; cases h
    | [_], h, e => cases e
    | k :: v :: vs, h, e =>
      unfold RepL at h
      obtain ⟨x', t, ex, r1, h⟩ := h
      cases ex
      unfold RepL at h
      obtain ⟨y', t', ey, r2, h⟩ := h
      cases ey
      have e : (match keyOf k, mkDic vs with
        | some (.inl k), some kvs => some ((Sum.inl k, v) :: kvs)
        | _, _ => none) = some kvs := e
      split at e
      · rename_i k' kvs' hk hm
        cases e
        obtain ⟨l, e1, e2⟩ := mkDic_rep sub h hm
        have ekv : x = kV k' := by
          rcases keyOf_rep sub hk r1 with ⟨k2, h1, h2⟩ | ⟨ks, b, h1, h2, h3⟩
          · cases h1; exact h2
          · cases h1
        refine ⟨(k', y) :: l, by rw [e1, ekv]; rfl, ?_⟩
        unfold RepK
        exact ⟨k', y, l, rfl, rfl, r2, e2⟩
      · cases e
end
end Lk

namespace Lk
open PySem L2 PySem.Spec PyProof.Rows
theorem compD_ok {α : Type} {own : List Nat} {f : α → Sg → Rs (Option (PV × PV))} : ∀ {xs : List α} {acc : List (DKey × PV)} {s s' : Sg} {o : Lk.R (List (DKey × PV))}, compD own f xs acc s = some (o, s') → ∃ ys, o = .ok ys
  | [], acc, s, s', o, h => by obtain ⟨rfl, rfl⟩ := rt_inj (show rt acc s = _ from h); exact ⟨_, rfl⟩
  | x :: r, acc, s, s', o, h => by
    unfold compD at h
    split at h
    · split at h
      · split at h
        · split at h
          · exact compD_ok h
          · cases h
        · cases h
      · exact compD_ok h
      · cases h
    · cases h
theorem compD_cons {α : Type} {own : List Nat} {f : α → Sg → Rs (Option (PV × PV))} {x : α} {r : List α} {acc : List (DKey × PV)} {s s' : Sg} {o : Lk.R (List (DKey × PV))} (h : compD own f (x :: r) acc s = some (o, s')) :
    noOwn s.env own = true ∧ ∃ z s1, f x { s with env := wipeE s.env own } = some (.ok z, s1) ∧
    match z with
    | some y => ∃ k, keyOf y.1 = some (.inl k) ∧ acc.length < SL ∧ compD own f r (dput acc (.inl k) y.2) { s1 with env := backE s.env s1.env own } = some (o, s')
    | none => compD own f r acc { s1 with env := backE s.env s1.env own } = some (o, s') := by
  unfold compD at h
  split at h
  · rename_i hn
    refine ⟨hn, ?_⟩
    split at h
    · rename_i y s1 he
      split at h
      · rename_i k hk
        split at h
        · exact ⟨_, s1, he, k, hk, by assumption, h⟩
        · cases h
      · cases h
    · rename_i s1 he
      exact ⟨_, s1, he, h⟩
    · cases h
  · cases h
section
variable {X : Cx}
/-- stored in a local at once -/
theorem ps_setDc {i : Nat} {y : Str} {py : Pos} {kx vx tg iter : Expr} {ifs : List Expr} {scope : Scope} {own : List (Str × Nat)} {pos spos : Pos} {wi : TI} {g : TG} {tt : TT} {tk tv : TE} (hc : X.calm = true) (hN : X.N.Nodup) (hy : X.N[i]? = some y)
    (hyl : X.env.scope.names.lookup y = some .local) (hsw : swapsWith (.DictComp kx vx [⟨tg, iter, ifs, 0⟩] scope pos) (some (.Name y py)) spos.line X.env = pure true) (hi : PI X tg iter wi) (ok : BlkOk X.N X.env.scope scope own)
    (hg : ∀ (s : Shared) (H : Hp) (C : Addr) (cs : List (Str × Addr)) (fp : List Addr), PG (X.blk s H scope (compEnvC scope cs C X.env) fp) tg g) (ht : ∀ (s : Shared) (H : Hp) (C : Addr) (cs : List (Str × Addr)) (fp : List Addr), PTs (X.blk s H scope (compEnvC scope cs C X.env) fp) ifs tt)
    (hk : ∀ (s : Shared) (H : Hp) (C : Addr) (cs : List (Str × Addr)) (fp : List Addr), PE (X.blk s H scope (compEnvC scope cs C X.env) fp) kx tk) (he : ∀ (s : Shared) (H : Hp) (C : Addr) (cs : List (Str × Addr)) (fp : List Addr), PE (X.blk s H scope (compEnvC scope cs C X.env) fp) vx tv)
    (hs : ∀ x, foldedSetIterable iter X.env x = pure x) : PS X (.Assign [.Name y py] (.DictComp kx vx [⟨tg, iter, ifs, 0⟩] scope pos) spos) (tAsg (tDc wi g tt tk tv (own.map (·.2))) (gName i)) := ⟨fun pins s σ H D I h => by
  rw [exec_Assign_Name_used _ _ _ _ hsw]
  refine wpAny_bind (wpAny_standAt (wpAny_bind (show wpAny _ X.A (do
    let _ ← comprehension (.DictComp kx vx [⟨tg, iter, ifs, 0⟩] scope pos) scope X.env (firstIterPos [⟨tg, iter, ifs, 0⟩] pos) newDict false (eval iter X.env) (some (assign (.Name y py) X.env))) _ _ s from
      wpAny_bind (thn (dc_core (Q := fun x H1 => gName i x σ H1 D.nx) (Qf := fun _ s1 => SP X pins D .next s1) hc hN I hi ok hg ht hk he hs h fun L C s1 m H1 I1 q hn fp => ?_) fun _ s1 hq => wpAny_pure (wpAny_pure hq)))))
  refine (show wpAny _ _ (assign (.Name y py) X.env (.ref L)) _ _ _ from wpAny_assign_Name (store_ok2 (v := V.ref L) I1 hN hy (.inl hyl) rfl (fun s2 I2 pa => ?_) (.inr hyl)))
  obtain ⟨a, sb, ha⟩ := pa
  obtain ⟨f0, f1, f2, f3, f4, f5⟩ := fp
  have nCa : C ≠ a := ha.elim (fun z => z ▸ f1) fun z e => f4 y a z e.symm
  exact ⟨m, hn.sameBut sb nCa, fun h3 sb3 => ⟨_, H1, I2.turned (t' := s2.toks) (fun b o hb e => (sb3.2 b hb).trans e) f0 f1 f3 f4 f5, q⟩⟩⟩
end
theorem sw_falseD {kx vx : Expr} {gs : List Comprehension} {scope : Scope} {pos py : Pos} {y : Str} {l : Nat} {env : Env} (hk : env.scope.kind = .function)
    (hn : ¬ (env.scope.names.lookup y = some .local ∧ (py.line == pos.line) = true ∧ (scope.names.any fun (n, k) => n == y && (k == .local || k == .cell)) = false)) :
    swapsWith (.DictComp kx vx gs scope pos) (some (.Name y py)) l env = pure false := sw_false (elt := kx) (gs := gs) (l := l) hk hn
theorem sw_trueD {kx vx : Expr} {gs : List Comprehension} {scope : Scope} {pos py : Pos} {y : Str} {l : Nat} {env : Env} (hk : env.scope.kind = .function) (hy : env.scope.names.lookup y = some .local) (hl : (py.line == pos.line) = true)
    (ha : (scope.names.any fun (n, k) => n == y && (k == .local || k == .cell)) = false) : swapsWith (.DictComp kx vx gs scope pos) (some (.Name y py)) l env = pure true := sw_true (elt := kx) (gs := gs) (l := l) hk hy hl ha
section
variable {cl : String → Option Addr} {X : Cx} {c : Kx} {k : Nat} {Wx : WX} {F : Fn} {p : Expr}
/-- one turn's work -/
def turnD (F : Fn) (t : XT) (d ek e : XE) (x : PV) (s : Sg) : Rs (Option (PV × PV)) := op1 (bindT t x s) fun s => bd (tst d (evR d F s) s) fun b s => match b with
  | true => bd (fz (evR ek F s)) fun kv s => bd (fz (evR e F s)) fun v s => rt (some (kv, v)) s
  | false => rt none s
theorem jg_dc {wi : TI} {gg : TG} {tt : TT} {tk te : TE} {own : List Nat} {t : XT} {it : XI} {d ek e : XE} (Ji : JG X.K cl Wx wi (evI it F) (rIt X.K cl)) (og : GOk cl X t gg) (ho : ∀ i ∈ tgIx t, i ∈ own)
    (Jd : JG X.K cl (fun _ _ _ _ => False) tt (fun s => tst d (evR d F s) s) rBl) (Jk : JG X.K cl (fun _ _ _ _ => False) tk (fun s => fz (evR ek F s)) (rVal X.K cl)) (Je : JG X.K cl (fun _ _ _ _ => False) te (fun s => fz (evR e F s)) (rVal X.K cl)) :
    JG X.K cl Wx (tDc wi gg tt tk te own) (evR (.dcomp own t it d ek e) F) (rRes X.K cl) := by
  intro W0 H0 W s σ H Q out s' R h hok hx
  refine Ji.go R h hx (fun xs s1 h1 J W1 H1 l1 R1 wp => ?_)
  intro D hD
  have h1 : bd (compD own (turnD F t d ek e) xs [] s1) (fun kvs s => rt (PV.dic false kvs, true) s) = some (out, s') := h1
  rcases bd_cases h1 with ⟨ys, s2, hc, h2⟩ | ⟨cc, fs, hc, _⟩
  rotate_left
  · obtain ⟨ys, e⟩ := compD_ok hc; cases e
  obtain ⟨rfl, rfl⟩ := rt_inj h2
  obtain ⟨G, Y, w, hG, hY⟩ := wp
  have d1 := R1.df_new hD
  have main : ∀ i, i ≤ xs.length → True := fun _ _ => trivial
  let Pv : Nat → Hp → Prop := fun i H => ∃ W' s3 acc accV, W1.le W' ∧ Rl X.K cl W0 H0 W' s3 σ H ∧ H D = some (.dK accV) ∧ DF W0 H0 W' s3 σ D ∧ RepK X.K cl W' acc accV ∧ compD own (turnD F t d ek e) (xs.drop i) acc s3 = some (.ok ys, s')
  refine ⟨fun i m H => m = xs.length - i ∧ i ≤ xs.length ∧ Pv i H, ⟨xs.length, by simp, Nat.zero_le _, W1, s1, [], [], .refl _, R1.step (Ext.alloc hD) (R1.rm.alloc hD), upd_same, d1, by unfold RepK; rfl, by simpa using hc⟩, ?_⟩
  rintro i m H ⟨rfl, hi, W', s3, acc, accV, l, R3, hDe, dD, ra, hc⟩
  have q := hG W' H l R3.rm.sub
  by_cases hlt : i < xs.length
  · refine .inr ⟨w.goes i H hlt q, Pv (i + 1), fun H' p' => ⟨xs.length - (i + 1), by omega, rfl, hlt, p'⟩, fun x H' y => ?_⟩
    have hy := w.yields i H x H' hlt q y
    obtain ⟨p, hp, new⟩ := hY i H x H' hlt hy W' l R3.rm.sub
    have hdr : xs.drop i = p :: xs.drop (i + 1) := by
      have hi' := (List.getElem?_eq_some_iff.mp hp)
      obtain ⟨h1, h2⟩ := hi'
      rw [List.drop_eq_getElem_cons h1, h2]
    rw [hdr] at hc
    obtain ⟨hno, z, s4, hf, hz⟩ := compD_cons hc
    have fW0 := dD.f0 R3.si.le
    have R4 := (R3.root dD hDe).wipe (own := own)
    obtain ⟨W2, l2, R5, r5⟩ := fin_new R4 new
    have r5' : Rep X.K cl W2 p x := r5
    obtain ⟨s5, hb, hf2⟩ := op1_cases hf
    refine og _ _ W2 _ s5 _ H' x p _ R5 r5' hb fun σ2 R6 hw => ?_
    have hw' : L2.wipe σ2 own = L2.wipe σ own := (hw own ho).trans wipe_wipe
    refine ⟨hw', ?_⟩
    have back : ∀ {W6 : Wd} {s6 : Sg} {H6 : Hp}, W'.le W6 → Rl X.K cl W0 (upd H0 D (.dK accV)) W6 s6 σ2 H6 → H6 D = some (.dK accV) ∧ DF W0 H0 W6 { s6 with env := backE s3.env s6.env own } σ D ∧ Rl X.K cl W0 H0 W6 { s6 with env := backE s3.env s6.env own } σ H6 := fun {W6 s6 H6} l6 R6 =>
      (R3.unwipe hno R6 l6 hw').unroot dD.z fW0.1 fW0.2
    refine Jd.go R6 hf2 (fun cc fs e => nomatch e) (fun b s6 h6 b' W6 H6 l6 R7 eb => ?_)
    cases (show b' = b from eb)
    cases b with
    | false =>
      obtain ⟨ez, es⟩ := rt_inj (show rt (none : Option (PV × PV)) s6 = _ from h6)
      have ez' : z = none := by injection ez
      subst ez' es
      obtain ⟨e1, d2, R8⟩ := back (l2.trans l6) R7
      exact ⟨W6, _, acc, accV, l.trans (l2.trans l6), R8, e1, d2, RepK.mono (l2.trans l6) _ _ ra, hz⟩
    | true =>
      refine Jk.go R7 h6 (fun cc fs e => nomatch e) (fun kv s7 h7 y W7 H7 l7 R8 ry => ?_)
      refine Je.go R8 h7 (fun cc fs e => nomatch e) (fun v s8 h8 u W8 H8 l8 R9 ru => ?_)
      obtain ⟨ez, es⟩ := rt_inj h8
      have ez' : z = some (kv, v) := by injection ez
      subst ez' es
      obtain ⟨kk, hkk, hlen, hz⟩ := hz
      have la := l2.trans (l6.trans (l7.trans l8))
      obtain ⟨e1, d2, R10⟩ := back la R9
      have ey : y = kV kk := by
        rcases keyOf_rep R8.rm.sub hkk ry with ⟨k2, h1, h2⟩ | ⟨ks, b, h1, h2, h3⟩
        · cases h1; exact h2
        · cases h1
      refine ⟨accV, kk, ey, e1, by rw [← SL_eq, ← repK_len ra]; exact hlen, W8, _, dput acc (.inl kk) v, putK accV kk u, l.trans la, R10.poke d2 e1 (fun x q => nomatch q), upd_same, d2, repK_put ru (RepK.mono la _ _ ra), hz⟩
  · have e : i = xs.length := by omega
    subst e
    refine .inl ⟨w.stops H q, ?_⟩
    have hdr : xs.drop xs.length = [] := by simp
    rw [hdr] at hc
    obtain ⟨ey, es⟩ := rt_inj (show rt acc s3 = _ from hc)
    have ey' : ys = acc := by injection ey
    subst ey' es
    refine hok _ rfl _ W' H (l1.trans l) R3 ?_
    show Res X.K cl W0 H0 W' s' σ H _ _
    unfold Res
    exact ⟨D, rfl, ⟨⟨accV, hDe, ra⟩, dD.f, dD.i, dD.z, dD.o⟩⟩
theorem sv_dcomp {own : List Nat} {t : XT} {it : XI} {d ek e : XE} (S : SI it) (Sd : SE d) (Sk : SV ek) (Se : SV e) : SV (.dcomp own t it d ek e) := fun {cl X c k Wx F p} g h nd => by
  match p, h with
  | .DictComp pk pe [⟨pt, pi, ifs, 0⟩] scope pos, h =>
    obtain ⟨h1, h⟩ := and_t h
    obtain ⟨h2, h⟩ := and_t h
    obtain ⟨h3, h⟩ := and_t h
    obtain ⟨h4, h⟩ := and_t h
    obtain ⟨h5, h⟩ := and_t h
    obtain ⟨hk0, h⟩ := and_t h
    obtain ⟨h6, h7⟩ := and_t h
    have ho : ∀ i ∈ tgIx t, i ∈ own := fun i hi => by
      have := List.all_eq_true.mp h3 i hi
      simpa using this
    have ok : BlkOk X.N X.env.scope scope (ownP c.N own) := by
      rw [g.N, g.sc]; exact blkOk_by h2
    obtain ⟨wi, hpi, Ji⟩ := S g h5 nd.1
    let fam : Shared × Hp × Addr × List (Str × Addr) × List Addr → Cx := fun q => X.blk q.1 q.2.1 scope (compEnvC scope q.2.2.2.1 q.2.2.1 X.env) q.2.2.2.2
    have gb : ∀ q, Gd cl (fam q) (subK c scope) k (fun _ _ _ _ => False) F := fun q => g.blk ok _ _ _ _ _
    obtain ⟨gg, hg, og⟩ := uniG (cl := cl) (X := X) (f := fam) (t := t) (p := pt) (fun _ => rfl) (fun q => sg t (gb q) h4)
    obtain ⟨tk, hk, Jk⟩ := uniE (f := fam) (K := X.K) (cl := cl) (p := pk) (Wx := fun _ _ _ _ => False) (m := fun s => fz (evR ek F s)) (rel := rVal X.K cl) (fun q => Sk.je (gb q) hk0 nd.2.2.1)
    obtain ⟨te, he, Je⟩ := uniE (f := fam) (K := X.K) (cl := cl) (p := pe) (Wx := fun _ _ _ _ => False) (m := fun s => fz (evR e F s)) (rel := rVal X.K cl) (fun q => Se.je (gb q) h6 nd.2.2.2)
    have tests : ∃ tt, (∀ q, PTs (fam q) ifs tt) ∧ JG X.K cl (fun _ _ _ _ => False) tt (fun s => tst d (evR d F s) s) rBl := by
      match ifs, h7 with
      | [], h7 =>
        have ed : d = .cst (.bl true) := bl_true h7
        subst ed
        exact ⟨tYes, fun _ => pts_nil, jg_yes⟩
      | [pd], h7 =>
        obtain ⟨h7, h8⟩ := and_t h7
        obtain ⟨tt, ht, Jd⟩ := uniT (f := fam) (K := X.K) (cl := cl) (p := pd) (Wx := fun _ _ _ _ => False) (m := fun s => tst d (evR d F s) s) (rel := rBl) (fun q => let ⟨tt, a, _, b⟩ := Sd.pt (gb q) h8 h7 nd.2.1; ⟨tt, a, b⟩)
        exact ⟨tt, fun q => pts_one (ht q), Jd⟩
      | _ :: _ :: _, h7 => exact ff h7
    obtain ⟨tt, ht, Jd⟩ := tests
    have hp := pe_dc (pos := pos) g.calm g.nd hpi ok (fun s H C cs fp => hg (s, H, C, cs, fp)) (fun s H C cs fp => ht (s, H, C, cs, fp)) (fun s H C cs fp => hk (s, H, C, cs, fp)) (fun s H C cs fp => he (s, H, C, cs, fp)) (no_fold h1)
    rw [ownP_snd] at hp
    refine ⟨_, hp, ?_, jg_dc Ji og ho Jd Jk Je⟩
    intro i y py spos hi hl
    by_cases hn : X.env.scope.names.lookup y = some .local ∧ (py.line == pos.line) = true ∧ (scope.names.any fun (n, k) => n == y && (k == .local || k == .cell)) = false
    · have q := ps_setDc (pos := pos) (spos := spos) (py := py) g.calm g.nd hi hn.1 (sw_trueD g.kind hn.1 hn.2.1 hn.2.2) hpi ok (fun s H C cs fp => hg (s, H, C, cs, fp)) (fun s H C cs fp => ht (s, H, C, cs, fp)) (fun s H C cs fp => hk (s, H, C, cs, fp)) (fun s H C cs fp => he (s, H, C, cs, fp)) (no_fold h1)
      rw [ownP_snd] at q
      exact q
    · obtain ⟨l1, l2⟩ := g.loc hl
      exact ps_set g.nd hi l1 hp (sw_falseD g.kind hn) l2
end
end Lk

namespace Lk
open PySem L2 PySem.Spec PyProof.Rows
def rPairs (K : PySem.W.Frag) (cl : String → Option Addr) : RR (List PV) (List (V × V)) := fun _ _ W _ _ _ ps vs => RepL K cl W vs (flatV ps)
def rPairs' (K : PySem.W.Frag) (cl : String → Option Addr) : RR (List PV) (V × List (V × V)) := fun _ _ W _ _ _ q vs => RepL K cl W vs (q.1 :: flatV q.2)
def SD (es : XEs) : Prop := ∀ {cl : String → Option Addr} {X : Cx} {c : Kx} {k : Nat} {Wx : WX} {F : Fn} {ks : List (Option Expr)} {vs : List Expr}, Gd cl X c k Wx F → chkD es c ks vs = true → NdA (gv cl X) k es →
  ∃ trs, (∀ pos, PPs X pos ks vs trs) ∧ ks.all (·.isSome) = true ∧ ks.length = vs.length ∧ JG X.K cl Wx (tPairs trs) (evA es F) (rPairs X.K cl)
def SD' (es : XEs) : Prop := ∀ {cl : String → Option Addr} {X : Cx} {c : Kx} {k : Nat} {Wx : WX} {F : Fn} {ks : List (Option Expr)} {vs : List Expr}, Gd cl X c k Wx F → chkD' es c ks vs = true → NdA (gv cl X) k es →
  ∃ pv vs' tv trs, vs = pv :: vs' ∧ PE X pv tv ∧ (∀ pos, PPs X pos ks vs' trs) ∧ ks.all (·.isSome) = true ∧ ks.length = vs'.length ∧
    JG X.K cl Wx (fun σ H Q => tv σ H fun y H2 => tPairs trs σ H2 fun ps H3 => Q (y, ps) H3) (evA es F) (rPairs' X.K cl)
theorem sd_nil : SD .nil := fun {cl X c k Wx F ks vs} g h nd => by
  match ks, vs, h with
  | [], [], h =>
    refine ⟨[], fun _ => pps_nil, rfl, rfl, ?_⟩
    intro W0 H0 W s σ H Q out s' R h hok hx
    obtain ⟨rfl, rfl⟩ := rt_inj (show rt [] s = _ from h)
    exact hok _ rfl [] W H (.refl W) R RepL.nil
  | _ :: _, _, h => exact ff h
  | [], _ :: _, h => exact ff h
theorem sd'_nil : SD' .nil := fun g h nd => ff h
theorem sd_cons {e : XE} {r : XEs} (Se : SV e) (Sr : SD' r) : SD (.cons e r) := fun {cl X c k Wx F ks vs} g h nd => by
  match ks, h with
  | [], h => exact ff h
  | none :: _, h => exact ff h
  | some pk :: ks, h =>
    obtain ⟨h1, h2⟩ := and_t h
    obtain ⟨te, hp, J⟩ := Se.je g h1 nd.1
    obtain ⟨pv, vs', tv, trs, rfl, hv, hr, ha, hl, J'⟩ := Sr g h2 nd.2
    refine ⟨(te, tv) :: trs, fun pos => pps_cons hp hv (hr pos), by simpa using ha, by simp [hl], ?_⟩
    intro W0 H0 W s σ H Q out s' R h hok hx
    refine J.go R h hx (fun v s1 h1 x W1 H1 l1 R1 rp => ?_)
    refine J'.go (Q := fun q H3 => Q ((x, q.1) :: q.2) H3) R1 h1 (hx_le l1 hx) (fun ws s2 h2 y W2 H2 l2 R2 rq => ?_)
    obtain ⟨rfl, rfl⟩ := rt_inj h2
    exact hok _ rfl _ W2 H2 (l1.trans l2) R2 (RepL.cons (Rep.mono l2 _ _ rp) rq)
theorem sd'_cons {e : XE} {r : XEs} (Se : SV e) (Sr : SD r) : SD' (.cons e r) := fun {cl X c k Wx F ks vs} g h nd => by
  match vs, h with
  | [], h => exact ff h
  | pv :: vs, h =>
    obtain ⟨h1, h2⟩ := and_t h
    obtain ⟨te, hp, J⟩ := Se.je g h1 nd.1
    obtain ⟨trs, hr, ha, hl, J'⟩ := Sr g h2 nd.2
    refine ⟨pv, vs, te, trs, rfl, hp, hr, ha, hl, ?_⟩
    intro W0 H0 W s σ H Q out s' R h hok hx
    refine J.go R h hx (fun v s1 h1 x W1 H1 l1 R1 rp => ?_)
    refine J'.go (Q := fun q H3 => Q (x, q) H3) R1 h1 (hx_le l1 hx) (fun ws s2 h2 y W2 H2 l2 R2 rq => ?_)
    obtain ⟨rfl, rfl⟩ := rt_inj h2
    exact hok _ rfl _ W2 H2 (l1.trans l2) R2 (RepL.cons (Rep.mono l2 _ _ rp) rq)
theorem sv_dic {es : XEs} (S : SD es) : SV (.dic es) := fun {cl X c k Wx F p} g h nd => by
  cases p with
  | Dict ks vs pos =>
    obtain ⟨h1, h2⟩ := and_t h
    obtain ⟨h0, h15⟩ := (dec_t h1 : ks ≠ [] ∧ ks.length ≤ 15)
    obtain ⟨trs, hr, ha, hl, J⟩ := S g h2 nd
    have hp := pe_disp (hr pos) ha hl h0 h15
    refine ⟨_, hp, asg_of g hp rfl, ?_⟩
    intro W0 H0 W s σ H Q out s' R h hok hx D hD
    have d1 := R.df_new hD
    have R1 := R.step (Ext.alloc (o := .dK []) hD) (R.rm.alloc (o := .dK []) hD)
    have f0 := d1.f0 R.si.le
    have R2 := R1.root (D := D) d1 upd_same
    refine JG.go (Q := fun ps H2 => H2 D = some (.dK []) ∧ ∃ kvs : List (Key × V), ps = kvs.map (fun kv => (kV kv.1, kv.2)) ∧ kvs.length ≤ 15 ∧ Q (.ref D) (upd H2 D (.dK (mergeK [] kvs)))) J R2 h (fun cc fs e cls d W' H' l R' ex => ?_) (fun ws s2 h2 ps W2 H2 l2 R3 rq => ?_)
    · obtain ⟨e1, d2, R4⟩ := R'.unroot d1.z f0.1 f0.2
      exact hx cc fs e cls d W' H' l R4 ex
    · obtain ⟨e1, d2, R4⟩ := R3.unroot d1.z f0.1 f0.2
      obtain ⟨kvs, ek, h3⟩ := op1_cases h2
      have h3 : (if kvs.length ≤ 15 then rt (PV.dic false (mergeD [] kvs), true) s2 else none) = some (out, s') := h3
      split at h3
      · rename_i hlen
        obtain ⟨rfl, rfl⟩ := rt_inj h3
        obtain ⟨l, el, rl⟩ := mkDic_rep R4.rm.sub rq ek
        refine ⟨e1, l, el, by rw [← repK_len rl]; exact hlen, hok _ rfl _ W2 _ l2 (R4.poke d2 e1 (fun x q => nomatch q)) ?_⟩
        show Res X.K cl W0 H0 W2 s' σ _ _ _
        unfold Res
        exact ⟨D, rfl, ⟨⟨_, upd_same, repK_merge rl (by unfold RepK; rfl)⟩, d2.f, d2.i, d2.z, d2.o⟩⟩
      · cases h3
  | _ => exact ff h
mutual
theorem se : ∀ e : XE, SE e
  | .nvr => se_nvr
  | .var i => SV.mk sv_var (fun _ _ h => h) (fun _ h => h)
  | .cst v => SV.mk sv_cst (fun _ _ h => h) (fun _ h => h)
  | .glb x v => SV.mk sv_glb (fun _ _ h => h) (fun _ h => h)
  | .bin op a b => SV.mk (sv_bin (se a).pe (se b).pe) (fun _ _ h => h) (fun _ h => h)
  | .neg a => SV.mk (sv_neg (se a).pe) (fun _ _ h => h) (fun _ h => h)
  | .not a => se_not (se a)
  | .cmp op a b => se_cmp (se a).pe (se b).pe
  | .cmp2 op op' a b d => se_cmp2 (se a).pe (se b).pe (se d).pe
  | .and a b => SV.mk (sv_and (se a).pe (se b).pe) (fun _ _ h => h) (fun _ h => h)
  | .or a b => SV.mk (sv_or (se a).pe (se b).pe) (fun _ _ h => h) (fun _ h => h)
  | .tand a b => se_tand (se a) (se b)
  | .tor a b => se_tor (se a) (se b)
  | .ite d a b => SV.mk (sv_ite (se d) (se a).pe (se b).pe) (fun _ _ h => h) (fun _ h => h)
  | .lst es => SV.mk (sv_lst (sall es).1) (fun _ _ h => h) (fun _ h => h)
  | .tup es => SV.mk (sv_tup (sall es).1) (fun _ _ h => h) (fun _ h => h)
  | .dic es => SV.mk (sv_dic (sall es).2.1) (fun _ _ h => h) (fun _ h => h)
  | .dnew t => SV.mk sv_dnew (fun _ _ h => h) (fun _ h => h)
  | .nref e => SV.mk (sv_nref (se e).pe) (fun _ _ h => h) (fun _ h => h)
  | .idx a i => SV.mk (sv_idx (se a).pe (se i).pe) (fun _ _ h => h) (fun _ h => h)
  | .slc a l h => SV.mk (sv_slc (se a).pe (se l).pe (se h).pe) (fun _ _ h => h) (fun _ h => h)
  | .nop => SV.mk (fun g h nd => ff h) (fun _ _ h => h) (fun _ h => h)
  | .rev a => SV.mk (sv_rev (se a).pe) (fun _ _ h => h) (fun _ h => h)
  | .call f es => SV.mk (sv_call (sall es).1) (fun _ _ h => h) (fun _ h => h)
  | .self es => SV.mk (sv_self (sall es).1) (fun _ _ h => h) (fun _ h => h)
  | .prm f es => SV.mk (sv_prm (sall es).1) (fun _ _ h => h) (fun _ h => h)
  | .isin a ds cs => SV.mk (sv_isin (se a).pe) (fun _ _ h => h) (fun _ h => h)
  | .met m o es => SV.mk (sv_met (se o).pe (sall es).1) (fun _ _ h => h) (fun _ h => h)
  | .mut m o es => SV.mk (sv_mut (se o).pe (sall es).1) (fun _ _ h => h) (fun _ h => h)
  | .comp own t it d e => SV.mk (sv_comp (si it) (se d) (se e).pe) (fun _ _ h => h) (fun _ h => h)
  | .dcomp own t it d k e => SV.mk (sv_dcomp (si it) (se d) (se k).pe (se e).pe) (fun _ _ h => h) (fun _ h => h)
  | .fld a C f => SV.mk (sv_fld (se a).pe) (fun _ _ h => h) (fun _ h => h)
  | .make C f es => SV.mk (sv_make (sall es).1) (fun _ _ h => h) (fun _ h => h)
theorem sall : ∀ es : XEs, SA es ∧ SD es ∧ SD' es
  | .nil => ⟨sa_nil, sd_nil, sd'_nil⟩
  | .cons e r => ⟨sa_cons (se e).pe (sall r).1, sd_cons (se e).pe (sall r).2.2, sd'_cons (se e).pe (sall r).2.1⟩
theorem si : ∀ it : XI, SI it
  | .val e => si_val (se e).pe
  | .rng1 a => si_rng1 (se a).pe
  | .rng2 a b => si_rng2 (se a).pe (se b).pe
  | .enum a => si_enum (se a).pe
  | .zip a b => si_zip (se a).pe (se b).pe
  | .items a => si_items (se a).pe
  | .values a => si_values (se a).pe
end
end Lk

namespace Lk
open PySem L2 PySem.Spec PyProof.Rows
def noTup : Expr → Bool
  | .Tuple .. => false
  | _ => true
def isDoc : Expr → Bool
  | .Constant (.str _) _ _ => true
  | _ => false
def chkX (ex : Option (Nat × Str)) : XX → Kx → Expr → Bool
  | .cst v, _, p => match p with
    | .Constant k _ _ => cstB v k
    | _ => false
  | .fld f, c, p => match p, ex with
    | .Attribute (.Name y q) x _, some (j, n) => decide (y = n) && (decide (x = (f : Str)) && varB c j y)
    | _, _ => false
  | .pair a b, c, p => match p with
    | .Tuple [pa, pb] _ _ => noSt pa && (noSt pb && (chkX ex a c pa && chkX ex b c pb))
    | _ => false
  | .lst1 a, c, p => match p with
    | .List [pa] _ => noSt pa && chkX ex a c pa
    | _ => false
  | .lst2 a b, c, p => match p with
    | .List [pa, pb] _ => noSt pa && (noSt pb && (chkX ex a c pa && chkX ex b c pb))
    | _ => false
def exB (c : Kx) (i : Nat) (ex : Option Nat) (on : Option Str) : Bool := match ex, on with
  | none, none => true
  | some j, some n => decide (c.N[j]? = some n) && (decide (c.sc.names.lookup n = some .local) && decide (j ≠ i))
  | _, _ => false
def exN (ex : Option Nat) (on : Option Str) : Option (Nat × Str) := match ex, on with
  | some j, some n => some (j, n)
  | _, _ => none
/-- a clause whose suite is one assignment -/
def hOf (p : ExceptHandler) : Option (Str × Pos × Option Str × Str × Pos × Expr × Pos × Pos) := match p with
  | .ExceptHandler (some (.Name x np)) on [.Assign [.Name y py] pe spos] hpos => some (x, np, on, y, py, pe, spos, hpos)
  | _ => none
theorem hOf_eq {p : ExceptHandler} {x : Str} {np : Pos} {on : Option Str} {y : Str} {py : Pos} {pe : Expr} {spos hpos : Pos} (h : hOf p = some (x, np, on, y, py, pe, spos, hpos)) : p = .ExceptHandler (some (.Name x np)) on [.Assign [.Name y py] pe spos] hpos := by
  unfold hOf at h
  split at h
  · cases h; rfl
  · cases h
/-- except clauses: one assignment each -/
def chkH : XHs → Kx → List ExceptHandler → Bool
  | .nil, _, ps => match ps with
    | [] => true
    | _ => false
  | .cons h ex i px r, c, ps => match ps with
    | p :: q => (match hOf p with
      | some (x, _, on, y, _, pe, _, _) => decide (x = (h : Str)) && (glB c x && (decide (c.N[i]? = some y) && (locB c y && (noComp pe && (exB c i ex on && (chkX (exN ex on) px c pe && chkH r c q))))))
      | none => false)
    | _ => false
/-- taken apart -/
theorem chkH_cons {h : String} {ex : Option Nat} {i : Nat} {px : XX} {r : XHs} {c : Kx} {ps : List ExceptHandler} (hc : chkH (.cons h ex i px r) c ps = true) : ∃ np on y py pe spos hpos q, ps = .ExceptHandler (some (.Name (h : Str) np)) on [.Assign [.Name y py] pe spos] hpos :: q ∧
    glB c (h : Str) = true ∧ c.N[i]? = some y ∧ locB c y = true ∧ noComp pe = true ∧ exB c i ex on = true ∧ chkX (exN ex on) px c pe = true ∧ chkH r c q = true := by
  cases ps with
  | nil => exact absurd hc (by simp [chkH])
  | cons p q =>
    have hc : (match hOf p with
      | some (x, _, on, y, _, pe, _, _) => decide (x = (h : Str)) && (glB c x && (decide (c.N[i]? = some y) && (locB c y && (noComp pe && (exB c i ex on && (chkX (exN ex on) px c pe && chkH r c q))))))
      | none => false) = true := hc
    cases hp : hOf p with
    | none => rw [hp] at hc; cases hc
    | some z =>
      obtain ⟨x, np, on, y, py, pe, spos, hpos⟩ := z
      rw [hp] at hc
      simp only [Bool.and_eq_true, decide_eq_true_eq] at hc
      obtain ⟨h1, h2, h3, h4, h5, h6, h7, h8⟩ := hc
      subst h1
      exact ⟨np, on, y, py, pe, spos, hpos, q, by rw [hOf_eq hp], h2, h3, h4, h5, h6, h7, h8⟩
mutual
def chkS : XS → Kx → Stmt → Bool
  | .nvr, _, _ => true
  | .asg t e, c, p => match p with
    | .Assign [pt] pe _ => (match t with
      | .name i => (match pt with
        | .Name y _ => decide (c.N[i]? = some y) && (locB c y && chkE e c false pe)
        | _ => false)
      | t => chkG t c pt && (noTup pe && (noComp pe && chkE e c false pe)))
    | _ => false
  | .setI o i e, c, p => match p with
    | .Assign [.Subscript po pi _] pe _ => noComp pe && (noSlice pi && (chkE e c false pe && (chkE o c false po && chkE i c false pi)))
    | _ => false
  | .setF o _ f e, c, p => match p with
    | .Assign [.Attribute po x _] pe _ => decide (x = (f : Str)) && (noComp pe && (chkE e c false pe && chkE o c false po))
    | _ => false
  | .aug i op e, c, p => match p with
    | .AugAssign (.Name y _) o pe _ => decide (c.N[i]? = some y) && (locB c y && (decide (o = toB op) && chkE e c false pe))
    | _ => false
  | .expr e, c, p => match p with
    | .Expr pe _ => noComp pe && chkE e c false pe
    | _ => false
  | .ifs d a b, c, p => match p with
    | .If pd pa pb _ => tstB d pd && (chkE d c true pd && (chkSs a c pa && chkSs b c pb))
    | _ => false
  | .for_ t it body, c, p => match p with
    | .For pt pi pb [] _ => noSet pi && (chkG t c pt && (chkI it c pt pi && chkSs body c pb))
    | _ => false
  | .whl _ d body, c, p => match p with
    | .While pd pb [] _ => tstB d pd && (chkE d c true pd && chkSs body c pb)
    | _ => false
  | .ret e, c, p => match p with
    | .Return (some pe) _ => chkE e c false pe
    | _ => false
  | .retN, _, p => match p with
    | .Return none _ => true
    | _ => false
  | .brk, _, p => match p with
    | .Break _ => true
    | _ => false
  | .cont, _, p => match p with
    | .Continue _ => true
    | _ => false
  | .pass, _, p => match p with
    | .Pass _ => true
    | .Expr e _ => isDoc e
    | _ => false
  | .raise cs ns es, c, p => match p with
    | .Raise (some (.Call (.Name y _) ps [] _)) none _ => decide (y = (cs : Str)) && (glB c y && (noStL ps && (decide (ps.isEmpty = ns.isEmpty) && chkA es c ps)))
    | _ => false
  | .try_ _ body hs, c, p => match p with
    | .Try pb (ph :: phs) [] [] _ => chkSs body c pb && chkH hs c (ph :: phs)
    | _ => false
def chkSs : XSs → Kx → List Stmt → Bool
  | .nil, _, ps => match ps with
    | [] => true
    | _ => false
  | .cons s r, c, ps => match ps with
    | p :: q => chkS s c p && chkSs r c q
    | _ => false
end
/-- what stands once self.f = f is done for all -/
def iniH (a C d : Addr) (l : List (Str × V)) (H : Hp) : Hp := upd (upd H d (exd d l)) a (exo a C (some d))
/-- an exception's __init__: each field its argument -/
def spIni (K : PySem.W.Frag) (C : Addr) (ns : List String) : Sp := fun vs H Q _ => ∃ (a : Addr) (us : List V), vs = .ref a :: us ∧ us.length = ns.length ∧ H a = some (exo a C none) ∧ ∀ d, H d = none → d ≠ a → Q .non (iniH a C d ((ns.map fun (f : String) => ((f : Str))).zip us).reverse H)
/-- what a raise leans on -/
def RsN (G : Gv) (k : Nat) (cs : String) (ns : List String) : Prop := ∃ C, G.mg cs = some (.ref C) ∧ G.cl cs = some C ∧ (∃ ab, PySem.W.findIn G.K (.ref C) "__init__" = ab) ∧
  ((ns = [] ∧ PySem.W.excIn G.K C He.veBase "ValueError.__new__" = true ∧ PySem.W.keepIn G.K (.ref C) = true ∧ PySem.W.subIn G.K (.ref C) (.type "BaseException") = some true ∧ PySem.W.typeIn G.K (.ref C) = some (.type "type")) ∨
    (ns ≠ [] ∧ ns.length ≤ 20 ∧ ∃ fI fd ps k', k' + 1 ≤ k ∧ OexC G.K C ∧ PySem.W.findIn G.K (.ref C) "__init__" = some (some (.ref fI)) ∧ PySem.W.typeIn G.K (.ref fI) = some (.type "function") ∧ Binds G.K fd ps [] ∧ FnOk G.P G.w G.K G.mg G.base (L2.CX G.P G.w) k' fI fd ps (spIni G.K C ns)))
/-- the fields that a suite reads -/
def fldsX : XX → List String
  | .cst _ => []
  | .fld f => [f]
  | .pair a b => fldsX a ++ fldsX b
  | .lst1 a => fldsX a
  | .lst2 a b => fldsX a ++ fldsX b
/-- what except clauses lean on -/
def HsN (G : Gv) (es : List String) : XHs → Prop
  | .nil => True
  | .cons h _ _ px r => (∃ v, G.mg h = some v ∧ (∀ c ∈ es, ∃ C, G.cl c = some C ∧ PySem.W.exmOne G.K (.ref C) v = some (excIs h c)) ∧ ∀ f ∈ fldsX px, ∃ C, G.cl h = some C ∧ XfC G.K C ∧ PySem.W.findIn G.K (.ref C) f = some none) ∧ HsN G es r
mutual
def NdS (G : Gv) (k : Nat) : XS → Prop
  | .nvr => True
  | .asg _ e => NdE G k e
  | .setI o i e => NdE G k e ∧ NdE G k o ∧ NdE G k i
  | .setF o C f e => (∃ c, G.cl C = some c ∧ Cls G.K c ∧ NoAttr G.K c (f : Str)) ∧ NdE G k e ∧ NdE G k o
  | .aug _ _ e => NdE G k e
  | .expr e => NdE G k e
  | .ifs d a b => NdE G k d ∧ NdSs G k a ∧ NdSs G k b
  | .for_ _ it b => NdI G k it ∧ NdSs G k b
  | .whl _ d b => NdE G k d ∧ NdSs G k b
  | .ret e => NdE G k e
  | .retN => True
  | .brk => True
  | .cont => True
  | .pass => True
  | .raise cs ns es => RsN G k cs ns ∧ NdA G k es
  | .try_ es b hs => NdSs G k b ∧ HsN G es hs
def NdSs (G : Gv) (k : Nat) : XSs → Prop
  | .nil => True
  | .cons s r => NdS G k s ∧ NdSs G k r
end
/-- o[i] = v -/
def rSet (K : PySem.W.Frag) (cl : String → Option Addr) : TSet := fun o i v H Q => ∃ W a y k p z, Sub W H ∧ o = .ref a ∧ At K cl W H a y ∧ Rep K cl W k i ∧ Rep K cl W p v ∧ setP y k p = some z ∧ ∀ o', At K cl W (upd H a o') a z → Q (upd H a o')
section
variable {cl : String → Option Addr} {X : Cx}
theorem PSet.imp {t t' : TSet} (h : PSet X t) (i : ∀ o i v H Q, t' o i v H Q → t o i v H Q) : PSet X t' := fun pins s σ H o i' v ov iv u Q I ro ri rv q => h pins s σ H o i' v ov iv u Q I ro ri rv (i _ _ _ _ _ q)
theorem set_ok (hu : X.A.units + 65 < cLine) : PSet X (rSet X.K cl) := by
  refine PSet.imp (PSet.or set_list (set_dict hu)) fun o i v H Q h => ?_
  obtain ⟨W, a, y, k, p, z, sub, rfl, t, rk, rp, e, fin⟩ := h
  cases y with
  | lst ps =>
    obtain ⟨xs, ha, ra⟩ := at_ins t
    cases k with
    | int j =>
      have e : (ixN' ps.length j).map (fun n => PV.lst (ps.set n p)) = some z := e
      cases hj : ixN' ps.length j with
      | none => rw [hj] at e; cases e
      | some n =>
        rw [hj] at e
        cases e
        have rk' := rk
        unfold Rep at rk'
        subst rk'
        refine .inl ⟨a, xs, j, n, rfl, rfl, ha, ?_, fin _ ⟨_, upd_same, ra.set rp n⟩⟩
        rw [← ra.length]
        exact hj
    | _ => cases e
  | dic t' kvs =>
    have e : ((keyOf k).bind fun k => if dok t' kvs k then some (PV.dic t' (dput kvs k p)) else none) = some z := e
    cases hk : keyOf k with
    | none => rw [hk] at e; cases e
    | some key =>
      rw [hk] at e
      simp only [Option.bind_some] at e
      split at e
      · rename_i hd
        cases e
        unfold dok at hd
        obtain ⟨h1, h2⟩ := and_t hd
        have hl := dec_t h2
        rcases keyOf_rep sub hk rk with ⟨k', ek, ex⟩ | ⟨ks, b, ek, ex, hb⟩
        · subst ek ex
          cases t' with
          | true => exact ff h1
          | false =>
            obtain ⟨l, ha, ra⟩ := (show ∃ l, H a = some (.dK l) ∧ RepK X.K cl W kvs l from t)
            exact .inr ⟨a, _, rfl, DPut.k ha (by rw [← SL_eq, ← repK_len ra]; exact hl), fin _ ⟨_, upd_same, repK_put rp ra⟩⟩
        · subst ek ex
          cases t' with
          | false => exact ff h1
          | true =>
            obtain ⟨l, ha, ra⟩ := (show ∃ l, H a = some (.dT l) ∧ RepT X.K cl W kvs l from t)
            exact .inr ⟨a, _, rfl, DPut.t ha hb (by rw [← SL_eq, ← repT_len ra]; exact hl), fin _ ⟨_, upd_same, repT_put rp ra⟩⟩
      · cases e
  | ins C fs => cases e
  | _ => exact t.elim
theorem repF_put {K : PySem.W.Frag} {W : Wd} {f : String} {p : PV} {v : V} (hv : Rep K cl W p v) : ∀ {fs : List (String × PV)} {l : List (Str × V)}, RepF K cl W fs l → RepF K cl W (putFP f p fs) (putF (f : Str) v l)
  | [], l, h => by
    unfold RepF at h; subst h
    unfold putFP putF RepF
    exact ⟨v, [], rfl, hv, by unfold RepF; rfl⟩
  | (g, q) :: r, l, h => by
    unfold RepF at h
    obtain ⟨x, t, rfl, h1, h2⟩ := h
    unfold putFP putF
    by_cases e : g = f
    · subst e
      rw [if_pos rfl, if_pos rfl]
      unfold RepF
      exact ⟨v, t, rfl, hv, h2⟩
    · rw [if_neg e, if_neg (fun z => e (str_inj z))]
      unfold RepF
      exact ⟨x, _, rfl, h1, repF_put hv h2⟩
theorem repF_len {K : PySem.W.Frag} {W : Wd} : ∀ {fs : List (String × PV)} {l : List (Str × V)}, RepF K cl W fs l → fs.length = l.length
  | [], l, h => by unfold RepF at h; subst h; rfl
  | (g, q) :: r, l, h => by
    unfold RepF at h
    obtain ⟨x, t, rfl, h1, h2⟩ := h
    simp [repF_len h2]
/-- name op= value -/
def rAug (K : PySem.W.Frag) (cl : String → Option Addr) (op : Bop) : TIp := fun x y H Q => ∃ W p q r, Rep K cl W p x ∧ Rep K cl W q y ∧ augP op p q = some r ∧ ∀ v, Rep K cl W r v → Q v H
theorem aug_ok {op : Bop} : PIp X (toB op) (rAug X.K cl op) := by
  intro pins s σ H x y v u Q I rx ry h
  obtain ⟨W, p, q, r, hp, hq, e, fin⟩ := h
  unfold augP at e
  split at e
  · cases e
    unfold Rep at hp hq
    subst hp hq
    exact iop_add pins s σ H _ _ v u Q I rx ry ⟨_, _, rfl, rfl, fin _ (by unfold Rep; rfl)⟩
  · cases e
    unfold Rep at hp hq
    subst hp hq
    exact iop_sub pins s σ H _ _ v u Q I rx ry ⟨_, _, rfl, rfl, fin _ (by unfold Rep; rfl)⟩
  · split at e
    · rename_i hl
      cases e
      unfold Rep at hp hq
      subst hp hq
      refine iop_add_str pins s σ H _ _ v u Q I rx ry ⟨_, _, rfl, rfl, by rw [str_len, str_len, ← SL_eq]; exact hl, fin _ ?_⟩
      rw [str_app]
      unfold Rep; rfl
    · cases e
  · cases e
end
end Lk

namespace Lk
open PySem L2 PySem.Spec PyProof.Rows
/-- a def's body's context -/
structure Gs (cl : String → Option Addr) (X : Cx) (c : Kx) (k : Nat) (Wx : WX) (F : Fn) : Prop extends Gd cl X c k Wx F where
  po : PassesOwn (model X.prog X.w) X.A X.env X.xe
  stk : X.stack = X.env :: X.outer
  frm : X.env.frame = some X.env.locals
/-- the ends serve what the evaluator ends with -/
structure EO (K : PySem.W.Frag) (cl : String → Option Addr) (Wx : WX) (W0 : Wd) (H0 : Hp) (W : Wd) (out : R Fl) (s' : Sg) (D : Ends) : Prop where
  nx : out = .ok .nx → ∀ W' σ' H', W.le W' → Rl K cl W0 H0 W' s' σ' H' → D.nx σ' H'
  bk : out = .ok .brk → ∀ W' σ' H', W.le W' → Rl K cl W0 H0 W' s' σ' H' → D.bk σ' H'
  ct : out = .ok .ct → ∀ W' σ' H', W.le W' → Rl K cl W0 H0 W' s' σ' H' → D.ct σ' H'
  rt : ∀ v o, out = .ok (.ret v o) → ∀ x W' σ' H', W.le W' → Rl K cl W0 H0 W' s' σ' H' → Res K cl W0 H0 W' s' σ' H' x (v, o) → D.rt x H'
  xx : ∀ c fs, out = .exc c fs → ∀ cls d W' σ' H', W.le W' → Rl K cl W0 H0 W' s' σ' H' → ExR K cl W' H' cls d c fs → Wx cls d σ' H'
def JS (K : PySem.W.Frag) (cl : String → Option Addr) (Wx : WX) (t : TS) (m : Sg → Rs Fl) : Prop :=
  ∀ (W0 : Wd) (H0 : Hp) (W : Wd) (s : Sg) (σ : L2.St) (H : Hp) (D : Ends) (out : R Fl) (s' : Sg), Rl K cl W0 H0 W s σ H → m s = some (out, s') → EO K cl Wx W0 H0 W out s' D → t D σ H
theorem EO.le {K : PySem.W.Frag} {cl : String → Option Addr} {Wx : WX} {W0 : Wd} {H0 : Hp} {W W1 : Wd} {out : R Fl} {s' : Sg} {D : Ends} (e : EO K cl Wx W0 H0 W out s' D) (l : W.le W1) : EO K cl Wx W0 H0 W1 out s' D :=
  ⟨fun h W' σ' H' l' => e.nx h W' σ' H' (l.trans l'), fun h W' σ' H' l' => e.bk h W' σ' H' (l.trans l'), fun h W' σ' H' l' => e.ct h W' σ' H' (l.trans l'), fun v o h x W' σ' H' l' => e.rt v o h x W' σ' H' (l.trans l'),
    fun c fs h cls d W' σ' H' l' => e.xx c fs h cls d W' σ' H' (l.trans l')⟩
/-- what an expression may let out -/
theorem EO.hx {K : PySem.W.Frag} {cl : String → Option Addr} {Wx : WX} {W0 : Wd} {H0 : Hp} {W : Wd} {out : R Fl} {s' : Sg} {D : Ends} {σ : L2.St} (e : EO K cl Wx W0 H0 W out s' D) :
    ∀ c fs, out = .exc c fs → ∀ cls d W' H', W.le W' → Rl K cl W0 H0 W' s' σ H' → ExR K cl W' H' cls d c fs → Wx cls d σ H' := fun c fs h cls d W' H' l R x => e.xx c fs h cls d W' σ H' l R x
def SS (st : XS) : Prop := ∀ {cl : String → Option Addr} {X : Cx} {c : Kx} {k : Nat} {Wx : WX} {F : Fn} {p : Stmt}, Gs cl X c k Wx F → chkS st c p = true → NdS (gv cl X) k st → ∃ t, PS X p t ∧ JS X.K cl Wx t (evS st F)
def SSs (st : XSs) : Prop := ∀ {cl : String → Option Addr} {X : Cx} {c : Kx} {k : Nat} {Wx : WX} {F : Fn} {p : List Stmt}, Gs cl X c k Wx F → chkSs st c p = true → NdSs (gv cl X) k st → ∃ t, PSs X p t ∧ JS X.K cl Wx t (evSs st F)
section
variable {K : PySem.W.Frag} {cl : String → Option Addr} {W0 W : Wd} {H0 H : Hp} {s : Sg} {σ : L2.St}
/-- a slot gets a new container -/
theorem Rl.bindOwn {i : Nat} {q : PV} {a : Addr} (R : Rl K cl W0 H0 W s σ H) (f : Fresh K cl W0 H0 W s σ H a q) (hi : i < s.env.length) : Rl K cl W0 H0 W { s with env := s.env.set i (.own q) } (σ.set i (some (.ref a))) H := by
  have hi' : i < σ.length := by rw [← R.len]; exact hi
  refine ⟨R.rm, R.si, by simpa using R.len, fun j p h => ?_, fun j p h => ?_, fun j j' p p' b h1 h2 e1 e2 => ?_⟩
  · have h : (s.env.set i (.own q))[j]? = some (.val p) := h
    by_cases nj : j = i
    · subst nj
      rw [List.getElem?_set_self hi] at h; cases h
    · rw [List.getElem?_set_ne (Ne.symm nj)] at h ⊢
      exact R.val j p h
  · have h : (s.env.set i (.own q))[j]? = some (.own p) := h
    by_cases nj : j = i
    · subst nj
      rw [List.getElem?_set_self hi] at h; cases h
      exact ⟨a, List.getElem?_set_self hi', f.at_, f.f, f.i, f.z⟩
    · rw [List.getElem?_set_ne (Ne.symm nj)] at h ⊢
      exact R.own j p h
  · have h1 : (s.env.set i (.own q))[j]? = some (.own p) := h1
    have h2 : (s.env.set i (.own q))[j']? = some (.own p') := h2
    by_cases nj : j = i
    · subst nj
      rw [List.getElem?_set_self hi'] at e1
      have eb : b = a := by simpa using e1.symm
      subst eb
      by_cases nj' : j' = j
      · exact nj'.symm
      · rw [List.getElem?_set_ne (Ne.symm nj')] at h2 e2
        exact absurd e2 (f.o j' p' h2)
    · by_cases nj' : j' = i
      · subst nj'
        rw [List.getElem?_set_self hi'] at e2
        have eb : b = a := by simpa using e2.symm
        subst eb
        rw [List.getElem?_set_ne (Ne.symm nj)] at h1 e1
        exact absurd e1 (f.o j p h1)
      · rw [List.getElem?_set_ne (Ne.symm nj)] at h1 e1
        rw [List.getElem?_set_ne (Ne.symm nj')] at h2 e2
        exact R.dist j j' p p' b h1 h2 e1 e2
end
theorem swap_none {ts : List Expr} {e : Expr} {env : Env} (h : noTup e = true) : swappedStores ts e env = pure none := by
  cases e with
  | Tuple _ _ _ => exact ff h
  | _ =>
    unfold swappedStores
    split
    · rename_i hh
      split at hh
      · rename_i hq; cases hq
      · rename_i hq; cases hq
      · cases hh
    · rfl
theorem ss_asg {t : XT} {e : XE} : SS (.asg t e) := fun {cl X c k Wx F p} g h nd => by
  cases p with
  | Assign tgs pe pos =>
   cases tgs with
   | nil => exact ff h
   | cons pt tl =>
    cases tl with
    | cons _ _ => exact ff h
    | nil =>
       cases t with
       | name i =>
         cases pt with
         | Name y py =>
           obtain ⟨h1, h2⟩ := and_t h
           obtain ⟨h2, h3⟩ := and_t h2
           obtain ⟨te, hp, ha, J⟩ := (se e).pe g.toGd h3 nd
           refine ⟨_, ha i y py pos (by rw [g.N]; exact dec_t h1) h2, ?_⟩
           intro W0 H0 W s σ H D out s' R h eo
           refine J.go (Q := fun x H1 => gName i x σ H1 D.nx) R h eo.hx (fun r s1 h1 x W1 H1 l1 R1 rp => ?_)
           have h1 : (if i < s1.env.length then rt Fl.nx { s1 with env := s1.env.set i (if r.2 && isCont r.1 then .own r.1 else .val r.1) } else none) = some (out, s') := h1
           split at h1
           · rename_i hi
             obtain ⟨rfl, rfl⟩ := rt_inj h1
             have rp' : Res X.K cl W0 H0 W1 s1 σ H1 x r := rp
             unfold Res at rp'
             cases hb : (r.2 && isCont r.1) with
             | true =>
               rw [hb] at rp'
               obtain ⟨a, rfl, fr⟩ := rp'
               refine eo.nx rfl W1 _ H1 l1 ?_
               rw [hb]
               exact R1.bindOwn fr hi
             | false =>
               rw [hb] at rp'
               refine eo.nx rfl W1 _ H1 l1 ?_
               rw [hb]
               exact R1.bind rp' hi
           · cases h1
         | _ => exact ff h
       | tup ts =>
         obtain ⟨h1, h2⟩ := and_t h
         obtain ⟨h2, h3⟩ := and_t h2
         obtain ⟨h3, h4⟩ := and_t h3
         obtain ⟨te, hp, J⟩ := SV.je (se e).pe g.toGd h4 nd
         obtain ⟨gg, hg, og⟩ := sg (.tup ts) g.toGd h1
         have hw : swappedStores [pt] pe X.env = pure none := by
           exact swap_none h2
         have ha : (assignEach [pt] X.env).map (·.2) = [assign pt X.env] := by rw [asgE_cons h1]; rfl
         refine ⟨_, ps_asg hp hg (no_swap h3) hw ha, ?_⟩
         intro W0 H0 W s σ H D out s' R h eo
         refine J.go (Q := fun x H1 => gg x σ H1 D.nx) R h eo.hx (fun v s1 h1 x W1 H1 l1 R1 rp => ?_)
         obtain ⟨s2, es, h3⟩ := op1_cases h1
         obtain ⟨rfl, rfl⟩ := rt_inj h3
         exact og _ _ W1 s1 s' σ H1 x v _ R1 rp es fun σ' R' _ => eo.nx rfl W1 σ' H1 l1 R'
  | _ => exact ff h
theorem asg_sub {o i : Expr} {pos : Pos} {env : Env} (h : noSlice i = true) : ∀ v, assign (.Subscript o i pos) env v = (do
      let ov ← holding [v] (eval o env)
      let iv ← holding [v, ov] (eval i env)
      standAt pos
      holding [v, ov, iv] (setItem ov iv v)
      release [v, ov, iv] []) := by
    intro v
    cases i <;> first | rfl | exact ff h
theorem ss_setI {o i e : XE} : SS (.setI o i e) := fun {cl X c k Wx F p} g h nd => by
  cases p with
  | Assign tgs pe pos =>
   cases tgs with
   | nil => exact ff h
   | cons pt tl =>
    cases tl with
    | cons _ _ => cases pt <;> exact ff h
    | nil =>
     cases pt with
     | Subscript po pi ps =>
       obtain ⟨h1, h2⟩ := and_t h
       obtain ⟨h2, h3⟩ := and_t h2
       obtain ⟨h3, h4⟩ := and_t h3
       obtain ⟨h4, h5⟩ := and_t h4
       obtain ⟨te, hp, J⟩ := SV.je (se e).pe g.toGd h3 nd.1
       obtain ⟨to, ho, Jo⟩ := SV.jp (se o).pe g.toGd h4 nd.2.1
       obtain ⟨ti, hi, Ji⟩ := SV.je (se i).pe g.toGd h5 nd.2.2
       refine ⟨_, ps_asg hp (pg_sub ho hi (set_ok (cl := cl) g.hu) (asg_sub h2)) (show swapsWith pe (some (.Subscript po pi ps)) pos.line X.env = pure false from no_swap h1) rfl rfl, ?_⟩
       intro W0 H0 W s σ H D out s' R h eo
       refine J.go (Q := fun v H1 => gSub to ti (rSet X.K cl) v σ H1 D.nx) R h eo.hx (fun v s1 h1 x W1 H1 l1 R1 rp => ?_)
       refine Jo.go R1 h1 (eo.le l1).hx (fun pl s2 h2 y W2 H2 l2 R2 rq => ?_)
       refine Ji.go R2 h2 (eo.le (l1.trans l2)).hx (fun kv s3 h3 z W3 H3 l3 R3 rz => ?_)
       obtain ⟨xv, ex, h4⟩ := op1_cases h3
       obtain ⟨y', ey, h5⟩ := op1_cases h4
       obtain ⟨s4, es, h6⟩ := op1_cases h5
       obtain ⟨rfl, rfl⟩ := rt_inj h6
       obtain ⟨a, ea, ta, put⟩ := put_ok R3 (PlR.mono l3 rq) ex es
       exact ⟨W3, a, xv, kv, v, y', R3.rm.sub, ea, ta, rz, Rep.mono (l2.trans l3) _ _ rp, ey, fun o' t' => eo.nx rfl W3 _ _ ((l1.trans l2).trans l3) (put o' t')⟩
     | _ => exact ff h
  | _ => exact ff h
theorem ss_setF {o : XE} {C f : String} {e : XE} : SS (.setF o C f e) := fun {cl X c k Wx F p} g h nd => by
  cases p with
  | Assign tgs pe pos =>
   cases tgs with
   | nil => exact ff h
   | cons pt tl =>
    cases tl with
    | cons _ _ => cases pt <;> exact ff h
    | nil =>
     cases pt with
     | Attribute po x ps =>
       obtain ⟨h1, h2⟩ := and_t h
       obtain ⟨h2, h3⟩ := and_t h2
       obtain ⟨h3, h4⟩ := and_t h3
       have ex : x = (f : Str) := dec_t h1
       subst ex
       obtain ⟨⟨C', e1, e2, e3⟩, nd1, nd2⟩ := nd
       obtain ⟨te, hp, J⟩ := SV.je (se e).pe g.toGd h3 nd1
       obtain ⟨to, ho, Jo⟩ := SV.jp (se o).pe g.toGd h4 nd2
       refine ⟨_, ps_fld ho hp (no_swap h2), ?_⟩
       intro W0 H0 W s σ H D out s' R h eo
       refine J.go (Q := fun y H1 => to σ H1 fun x H2 => ∃ a C dx fs, x = .ref a ∧ H2 a = some (.ins C dx fs) ∧ Cls X.K C ∧ NoAttr X.K C (f : Str) ∧ fs.length < 1000 ∧ D.nx σ (upd H2 a (.ins C dx (putF (f : Str) y fs)))) R h eo.hx (fun v s1 h1 x W1 H1 l1 R1 rp => ?_)
       refine Jo.go R1 h1 (eo.le l1).hx (fun pl s2 h2 y W2 H2 l2 R2 rq => ?_)
       obtain ⟨xv, ex, h4⟩ := op1_cases h2
       obtain ⟨y', ey, h5⟩ := op1_cases h4
       obtain ⟨s4, es, h6⟩ := op1_cases h5
       obtain ⟨rfl, rfl⟩ := rt_inj h6
       obtain ⟨a, ea, ta, put⟩ := put_ok R2 rq ex es
       unfold fput at ey
       split at ey
       · rename_i D' fs
         split at ey
         · rename_i hD
           cases ey
           obtain ⟨hD1, hD2⟩ := hD
           subst hD1
           obtain ⟨c', dx, l, ha, hd, ec, rf⟩ := (show ∃ c dx l, H2 a = some (.ins c dx l) ∧ H2 dx = some (.own a) ∧ cl D' = some c ∧ RepF X.K cl W2 fs l from ta)
           have : c' = C' := by
             have := ec.symm.trans e1
             simpa using this
           subst this
           have nd : dx ≠ a := fun q => by subst q; rw [ha] at hd; cases hd
           refine ⟨a, c', dx, l, ea, ha, e2, e3, by have := repF_len rf; omega, eo.nx rfl W2 σ _ (l1.trans l2) (put _ ?_)⟩
           exact ⟨c', dx, _, upd_same, by rw [upd_ne nd]; exact hd, ec, repF_put (Rep.mono l2 _ _ rp) rf⟩
         · cases ey
       · cases ey
     | _ => exact ff h
  | _ => exact ff h
theorem ss_aug {i : Nat} {op : Bop} {e : XE} : SS (.aug i op e) := fun {cl X c k Wx F p} g h nd => by
  cases p with
  | AugAssign pt o pe pos =>
   cases pt with
   | Name y py =>
       obtain ⟨h1, h20⟩ := and_t h
       obtain ⟨h2, h30⟩ := and_t h20
       obtain ⟨h3, h4⟩ := and_t h30
       cases (dec_t h3)
       obtain ⟨te, hp, J⟩ := SV.je (se e).pe g.toGd h4 nd
       obtain ⟨l1, l2⟩ := g.toGd.loc h2
       refine ⟨_, ps_aug g.nd (by rw [g.N]; exact dec_t h1) l1 hp (aug_ok (cl := cl) (op := op)) l2, ?_⟩
       intro W0 H0 W s σ H D out s' R h eo
       have h' : (match s.env[i]? with
         | some (.val p) => bd (fz (evR e F s)) fun w s => op1 (augP op p w) fun r => if i < s.env.length then rt Fl.nx { s with env := s.env.set i (.val r) } else none
         | _ => none) = some (out, s') := h
       split at h'
       · rename_i q hq
         obtain ⟨v, ev, rv⟩ := R.val i q hq
         refine ⟨v, ev, ?_⟩
         refine J.go R h' eo.hx (fun w s1 h1 x W1 H1 l1 R1 rp => ?_)
         obtain ⟨r, er, h2⟩ := op1_cases h1
         have h2 : (if i < s1.env.length then rt Fl.nx { s1 with env := s1.env.set i (.val r) } else none) = some (out, s') := h2
         split at h2
         · rename_i hi
           obtain ⟨rfl, rfl⟩ := rt_inj h2
           exact ⟨W1, q, w, r, Rep.mono l1 _ _ rv, rp, er, fun z hz => eo.nx rfl W1 _ H1 l1 (R1.bind hz hi)⟩
         · cases h2
       · cases h'
   | _ => exact ff h
  | _ => exact ff h
theorem ss_expr {e : XE} : SS (.expr e) := fun {cl X c k Wx F p} g h nd => by
  cases p with
  | Expr pe pos =>
    obtain ⟨h1, h2⟩ := and_t h
    obtain ⟨te, hp, J⟩ := SV.je (se e).pe g.toGd h2 nd
    refine ⟨_, ps_expr hp (no_swap h1), ?_⟩
    intro W0 H0 W s σ H D out s' R h eo
    refine J.go (Q := fun _ H1 => D.nx σ H1) R h eo.hx (fun w s1 h1 x W1 H1 l1 R1 rp => ?_)
    obtain ⟨rfl, rfl⟩ := rt_inj h1
    exact eo.nx rfl W1 σ H1 l1 R1
  | _ => exact ff h
theorem ss_retN : SS .retN := fun {cl X c k Wx F p} g h nd => by
  cases p with
  | Return v pos =>
   cases v with
   | some _ => exact ff h
   | none =>
    refine ⟨_, ps_retN, ?_⟩
    intro W0 H0 W s σ H D out s' R h eo
    obtain ⟨rfl, rfl⟩ := rt_inj (show rt (Fl.ret .non false) s = _ from h)
    exact eo.rt _ _ rfl .non W σ H (.refl W) R (by unfold Res; exact rep_non)
  | _ => exact ff h
theorem ss_brk : SS .brk := fun {cl X c k Wx F p} g h nd => by
  cases p with
  | Break pos =>
    refine ⟨_, ps_break, ?_⟩
    intro W0 H0 W s σ H D out s' R h eo
    obtain ⟨rfl, rfl⟩ := rt_inj (show rt Fl.brk s = _ from h)
    exact eo.bk rfl W σ H (.refl W) R
  | _ => exact ff h
theorem ss_cont : SS .cont := fun {cl X c k Wx F p} g h nd => by
  cases p with
  | Continue pos =>
    refine ⟨_, ps_continue, ?_⟩
    intro W0 H0 W s σ H D out s' R h eo
    obtain ⟨rfl, rfl⟩ := rt_inj (show rt Fl.ct s = _ from h)
    exact eo.ct rfl W σ H (.refl W) R
  | _ => exact ff h
theorem ss_pass : SS .pass := fun {cl X c k Wx F p} g h nd => by
  have J : JS X.K cl Wx tNext (evS .pass F) := by
    intro W0 H0 W s σ H D out s' R h eo
    obtain ⟨rfl, rfl⟩ := rt_inj (show rt Fl.nx s = _ from h)
    exact eo.nx rfl W σ H (.refl W) R
  cases p with
  | Pass pos => exact ⟨_, ps_pass, J⟩
  | Expr e pos =>
    cases e with
    | Constant v _ _ =>
      cases v with
      | str x => exact ⟨_, ps_doc, J⟩
      | _ => exact ff h
    | _ => exact ff h
  | _ => exact ff h
theorem ss_ret {e : XE} : SS (.ret e) := fun {cl X c k Wx F p} g h nd => by
  cases p with
  | Return ov pos =>
   cases ov with
   | none => exact ff h
   | some pe =>
    have gen : (∀ i, e ≠ .var i) → ∃ t, PS X (.Return (some pe) pos) t ∧ JS X.K cl Wx t (evS (.ret e) F) := fun hn => by
      obtain ⟨te, hp, _, J⟩ := (se e).pe g.toGd h nd
      refine ⟨_, ps_ret hp, ?_⟩
      intro W0 H0 W s σ H D out s' R h eo
      have h' : bd (evR e F s) (fun v s => rt (Fl.ret v.1 (v.2 && isCont v.1)) s) = some (out, s') := by
        have q : evS (.ret e) F s = bd (evR e F s) (fun v s => rt (Fl.ret v.1 (v.2 && isCont v.1)) s) := by
          cases e <;> first | rfl | exact absurd rfl (hn _)
        rw [← q]; exact h
      refine J.go (Q := D.rt) R h' eo.hx (fun r s1 h1 x W1 H1 l1 R1 rp => ?_)
      obtain ⟨rfl, rfl⟩ := rt_inj h1
      refine eo.rt _ _ rfl x W1 σ H1 l1 R1 ?_
      have rp' : Res X.K cl W0 H0 W1 s' σ H1 x r := rp
      unfold Res at rp' ⊢
      simp only [Bool.and_assoc, Bool.and_self]
      exact rp'
    by_cases hv : ∃ i, e = .var i
    · obtain ⟨i, rfl⟩ := hv
      cases pe with
      | Name x px =>
        refine ⟨_, ps_ret (pe_varB g.toGd h), ?_⟩
        intro W0 H0 W s σ H D out s' R h eo
        have h' : (match s.env[i]? with
          | some (.val p) => rt (Fl.ret p false) s
          | some (.own p) => if isCont p then rt (.ret p true) { s with env := s.env.set i .non } else none
          | _ => none) = some (out, s') := h
        split at h'
        · rename_i q hq
          obtain ⟨rfl, rfl⟩ := rt_inj h'
          obtain ⟨v, ev, r⟩ := R.val i q hq
          exact ⟨v, ev, eo.rt _ _ rfl v W σ H (.refl W) R (by unfold Res; exact r)⟩
        · rename_i q hq
          split at h'
          · rename_i hc
            obtain ⟨rfl, rfl⟩ := rt_inj h'
            obtain ⟨a, ea, t, f, n, z⟩ := R.own i q hq
            have hil : i < s.env.length := (List.getElem?_eq_some_iff.mp hq).1
            have R1 : Rl X.K cl W0 H0 W { s with env := s.env.set i .non } σ H := R.env (by simp) (fun j p h => by
              by_cases nj : j = i
              · subst nj; rw [List.getElem?_set_self hil] at h; cases h
              · rw [List.getElem?_set_ne (Ne.symm nj)] at h; exact .inl h) (fun j p h => by
              by_cases nj : j = i
              · subst nj; rw [List.getElem?_set_self hil] at h; cases h
              · rw [List.getElem?_set_ne (Ne.symm nj)] at h; exact h)
            refine ⟨_, ea, eo.rt _ _ rfl _ W σ H (.refl W) R1 ?_⟩
            unfold Res
            simp only [hc, Bool.and_self]
            refine ⟨a, rfl, ⟨t, f, n, z, fun j p h he => ?_⟩⟩
            have h' : (s.env.set i .non)[j]? = some (.own p) := h
            by_cases nj : j = i
            · subst nj; rw [List.getElem?_set_self hil] at h'; cases h'
            · rw [List.getElem?_set_ne (Ne.symm nj)] at h'
              exact nj (R.dist j i p q a h' hq he ea)
          · cases h'
        · cases h'
      | _ => exact ff h
    · exact gen fun i q => hv ⟨i, q⟩
  | _ => exact ff h
end Lk

namespace Lk
open PySem L2 PySem.Spec PyProof.Rows
/-! ### raise -/
/-- X(), an own exception class without __init__ -/
theorem pmk_nil {X : Cx} {x : Str} {C : Addr} {p pos : Pos} (q : PySem.W.excIn X.K C He.veBase "ValueError.__new__" = true) (kC : PySem.W.keepIn X.K (.ref C) = true) (r : Raises X (.ref C)) (hg : Gl X x) (gC : X.mg x = some (.ref C)) (hdb : (x == ("__debug__" : Str)) = false) :
    PMk X (.Call (.Name x p) [] [] pos) (fun _ H Q => Q (.ref C) none H) := fun pins s σ H Q I h => by
  refine wpAny_Call_Name_kw (ld_glob I hg gC ?_ hdb)
  refine PySem.W.callWith_K0 I.kIn kC ?_
  show wpAny _ _ (call (.ref C) []) _ _ _
  obtain ⟨bm, N, nm, qn, bs, hdct, sn, sub, ab, col, dd, k0, k1, k2, k3, k5, mN, hC, hN, hni, T⟩ := exc_obj I.kIn q
  exact wpAny_call_exc_subT F.excBase_ValueError T hC hN hni (fun h' e hm => mk_of I hm r h (I.hok.gone hm.new)) (Nat.zero_le _)
theorem repF_zip {K : PySem.W.Frag} {cl : String → Option Addr} {W : Wd} : ∀ {ns : List String} {ps : List PV} {vs : List V}, ns.length = ps.length → RepL K cl W ps vs → RepF K cl W (ns.zip ps) ((ns.map fun (f : String) => ((f : Str))).zip vs)
  | [], [], vs, _, h => by
    have := repl_zero h
    subst this
    unfold RepF; rfl
  | f :: ns, p :: ps, vs, hl, h => by
    unfold RepL at h
    obtain ⟨v, vs', rfl, h1, h2⟩ := h
    show RepF K cl W ((f, p) :: ns.zip ps) (((f : Str), v) :: (ns.map fun (f : String) => ((f : Str))).zip vs')
    unfold RepF
    exact ⟨v, _, rfl, h1, repF_zip (by simpa using hl) h2⟩
  | [], _ :: _, _, hl, _ => by simp at hl
  | _ :: _, [], _, hl, _ => by simp at hl
theorem repF_app {K : PySem.W.Frag} {cl : String → Option Addr} {W : Wd} : ∀ {a b : List (String × PV)} {l m : List (Str × V)}, RepF K cl W a l → RepF K cl W b m → RepF K cl W (a ++ b) (l ++ m)
  | [], b, l, m, h, h2 => by
    unfold RepF at h
    subst h
    exact h2
  | (k, p) :: a, b, l, m, h, h2 => by
    unfold RepF at h
    obtain ⟨x, t, rfl, h3, h4⟩ := h
    show RepF K cl W ((k, p) :: (a ++ b)) (((k : Str), x) :: (t ++ m))
    unfold RepF
    exact ⟨x, _, rfl, h3, repF_app h4 h2⟩
theorem repF_rev {K : PySem.W.Frag} {cl : String → Option Addr} {W : Wd} : ∀ {a : List (String × PV)} {l : List (Str × V)}, RepF K cl W a l → RepF K cl W a.reverse l.reverse
  | [], l, h => by
    unfold RepF at h
    subst h
    unfold RepF; rfl
  | (k, p) :: a, l, h => by
    unfold RepF at h
    obtain ⟨x, t, rfl, h3, h4⟩ := h
    rw [List.reverse_cons, List.reverse_cons]
    refine repF_app (repF_rev h4) ?_
    unfold RepF
    exact ⟨x, [], rfl, h3, by unfold RepF; rfl⟩
theorem ss_raise {cs : String} {ns : List String} {es : XEs} : SS (.raise cs ns es) := fun {cl X c k Wx F p} g h nd => by
  cases p with
  | Raise oe oc pos =>
    match oe, oc, h with
    | some (.Call (.Name y q) ps [] cpos), none, h =>
      obtain ⟨h1, h20⟩ := and_t h
      obtain ⟨h2, h30⟩ := and_t h20
      obtain ⟨h3, h40⟩ := and_t h30
      obtain ⟨h4, h5⟩ := and_t h40
      have e : y = (cs : Str) := dec_t h1
      subst e
      obtain ⟨g1, g2, g3⟩ := g.gl h2
      obtain ⟨⟨t, pt, J⟩, _⟩ := (sall es).1 g.toGd h3 h5 nd.2
      obtain ⟨C, hm, hcl, _, hor⟩ := nd.1
      rcases hor with ⟨hn, ex, kC, hsub, hty⟩ | ⟨hn, hn20, fI, fd, pps, k', hk, O, hI, hty, hb, FO⟩
      · subst hn
        have hps : ps = [] := by
          have := dec_t h4
          simpa using this
        subst hps
        have hes : es = .nil := by
          cases es with
          | nil => rfl
          | cons _ _ => exact ff h5
        subst hes
        refine ⟨_, ps_raise g.calm g.tk (pmk_nil ex kC (raises_own hsub hty) g1 hm g2), ?_⟩
        intro W0 H0 W s σ H D out s' R h eo
        have h : (some (Lk.R.exc cs [], s) : Rs Fl) = some (out, s') := h
        cases h
        exact eo.xx cs [] rfl _ _ W σ H (.refl W) R ⟨C, hcl, rfl, .inl ⟨rfl, rfl⟩⟩
      · cases ps with
        | nil =>
          exfalso
          have := dec_t h4
          cases ns with
          | nil => exact hn rfl
          | cons _ _ => simp at this
        | cons p0 ps =>
          have hr : Room (k' + 1) X.A := g.room.mono hk
          have h3' : noSt p0 = true := by
            unfold noStL at h3
            simp at h3
            exact h3.1
          refine ⟨_, ps_raise g.calm g.tk (pmk_oex O hI hty FO hr hb .nil (fun pins σ H s e s' _ z => by
            obtain ⟨_, _, _, _, _, _, _, _, _, _, _, _, f⟩ := z
            exact f.elim) g1 hm pt g2 (star_cons h3') (star_any (by unfold noStL at h3 ⊢; simp at h3 ⊢; exact h3.2))), ?_⟩
          intro W0 H0 W s σ H D out s' R h eo
          refine J.go (Q := fun vs H1 => vs.length ≤ 1000 ∧ ∀ a, H1 a = none → spIni X.K C ns (V.ref a :: (vs ++ [])) (upd H1 a (exo a C none)) (fun v H2 => v = .non ∧ ∃ (d : Addr) (fs : List (Str × V)), H2 a = some (exo a C (some d)) ∧ H2 d = some (exd d fs) ∧ H1 d = none ∧ Wx (.ref C) (some d) σ (upd (del H2 a) d (.xd fs))) (fun _ _ _ => False)) R h eo.hx (fun vs s1 h6 xs W1 H1 l1 R1 rp => ?_)
          have h6 : (if vs.length = ns.length then some (Lk.R.exc cs (ns.zip vs).reverse, s1) else none) = some (out, s') := h6
          split at h6
          · rename_i hlen
            cases h6
            have rp' : RepL X.K cl W1 vs xs := rp
            have hxl := rp'.length
            refine ⟨by omega, fun a ha => ⟨a, xs, by rw [List.append_nil], by omega, upd_same, fun d hd hda => ⟨rfl, d, _, upd_same, (upd_ne hda).trans upd_same, ?_, ?_⟩⟩⟩
            · rw [upd_ne hda] at hd; exact hd
            · have hd1 : H1 d = none := by rw [upd_ne hda] at hd; exact hd
              have eh : upd (del (iniH a C d ((ns.map fun (f : String) => ((f : Str))).zip xs).reverse (upd H1 a (exo a C none))) a) d (.xd ((ns.map fun (f : String) => ((f : Str))).zip xs).reverse) = upd H1 d (.xd ((ns.map fun (f : String) => ((f : Str))).zip xs).reverse) := by
                funext b
                by_cases hb1 : b = d
                · subst hb1; rw [upd_same, upd_same]
                · rw [upd_ne hb1, upd_ne hb1]
                  by_cases hb2 : b = a
                  · subst hb2; rw [del_same, ha]
                  · rw [del_ne hb2]
                    unfold iniH
                    rw [upd_ne hb2, upd_ne hb1, upd_ne hb2]
              rw [eh]
              refine eo.xx cs _ rfl _ _ W1 σ _ l1 (R1.step (Ext.alloc hd1) (R1.rm.alloc hd1)) ⟨C, hcl, rfl, .inr ⟨d, _, ?_, rfl, upd_same, repF_rev (repF_zip hlen.symm rp')⟩⟩
              intro q
              have := congrArg List.length q
              rw [List.length_reverse, List.length_zip, hlen, Nat.min_self] at this
              exact hn (List.length_eq_zero_iff.mp this)
          · cases h6
    | none, _, h => exact ff h
    | some (.Call (.Name y q) ps [] cpos), some _, h => exact ff h
  | _ => exact ff h
/-! ### try: clauses with and without a name -/
def endX (ex : Option Nat) (D : Ends) : Ends := match ex with
  | none => D
  | some i => { nx := fun σ H => D.nx (σ.set i none) H, rt := D.rt, bk := fun σ H => D.bk (σ.set i none) H, ct := fun σ H => D.ct (σ.set i none) H }
def setX (ex : Option Nat) (a : Addr) (σ : L2.St) : L2.St := match ex with
  | none => σ
  | some i => σ.set i (some (.ref a))
abbrev Cl3 := Value × Option Nat × (Addr → Value → Option Addr → TS)
/-- what the clauses wish -/
def wMix (K : PySem.W.Frag) (Wout : WX) (D : Ends) : List Cl3 → WX
  | [] => Wout
  | q :: r => fun cls d σ H => ∃ b, PySem.W.exmOne K cls q.1 = some b ∧ (b = true → ∀ a, H a = none → q.2.2 a cls d (endX q.2.1 D) (setX q.2.1 a σ) H) ∧ (b = false → wMix K Wout D r cls d σ H)
abbrev SuOk (X : Cx) (su : List Stmt) (ts : Addr → Value → Option Addr → TS) : Prop := ∀ (a : Addr) (oe : Obj) (cls : Value) (d : Option Addr) (pn : List (Addr × Obj)), Zc cls d oe → (∃ vs, oe.data = .fields vs) → PSs (X.suite a ((a, oe) :: pn)) su (ts a cls d)
inductive HdsMix (X : Cx) : List ExceptHandler → List Cl3 → Prop
  | nil : HdsMix X [] []
  | plain {x : Str} {c : Value} {ts : Addr → Value → Option Addr → TS} {b₀ : Stmt} {su : List Stmt} {np q : Pos} {hds : List ExceptHandler} {l : List Cl3} (hc : Names X x c) (hsu : SuOk X (b₀ :: su) ts) (r : HdsMix X hds l) :
      HdsMix X (.ExceptHandler (some (.Name x np)) none (b₀ :: su) q :: hds) ((c, none, ts) :: l)
  | as {x n : Str} {i : Nat} {c : Value} {ts : Addr → Value → Option Addr → TS} {b₀ : Stmt} {su : List Stmt} {np q : Pos} {hds : List ExceptHandler} {l : List Cl3} (hi : X.N[i]? = some n) (hln : X.env.kindOf n = some .local) (hc : Names X x c) (hsu : SuOk X (b₀ :: su) ts) (r : HdsMix X hds l) :
      HdsMix X (.ExceptHandler (some (.Name x np)) (some n) (b₀ :: su) q :: hds) ((c, some i, ts) :: l)
/-- an exception that a try has in hand -/
structure Cght (X : Cx) (pins : List (Addr × Obj)) (σ : L2.St) (H : Hp) (cls : Value) (d : Option Addr) (a : Addr) (B : Heap) (sI s : Shared) : Prop where
  inv : Inv X pins σ H sI
  nb : ∀ b o, sI.heap.get? b = some o → b ∉ frs X.stack → B.get? b = some o
  fl : HandSPX.FlyingZ B (X.env :: X.outer) a (Zc cls d) s.heap
  up : sI.heap.UpToSlots s.heap
  na : H a = none
  os : s.os = sI.os
  ag : AllBare s.gens
section
variable {X : Cx} {pins : List (Addr × Obj)} {σ : L2.St} {H : Hp} {cls : Value} {d : Option Addr} {a : Addr} {B : Heap} {sI s : Shared}
theorem Cght.here (c : Cght X pins σ H cls d a B sI s) : Inv X pins σ H s := c.inv.landed c.nb c.fl.1 c.up c.os c.ag
theorem Cght.moved (c : Cght X pins σ H cls d a B sI s) {h : Heap} (fl : HandSPX.FlyingZ B (X.env :: X.outer) a (Zc cls d) h) (up : s.heap.UpToSlots h) : Cght X pins σ H cls d a B sI { s with heap := h } :=
  ⟨c.inv, c.nb, fl, c.up.trans up, c.na, c.os, c.ag⟩
theorem Cght.obj (c : Cght X pins σ H cls d a B sI s) (hf : X.env.frame = some X.env.locals) : ∃ oe, s.heap.get? a = some oe ∧ Zc cls d oe ∧ (∃ vs, oe.data = .fields vs) ∧ Inv (X.suite a ((a, oe) :: (X.pn ++ pins))) [] σ H s := by
  obtain ⟨oe, vs, he, hz, hd⟩ := c.fl.there
  have nfr : a ∉ frs (X.env :: X.outer) := fun hm => by
    obtain ⟨_, o', e', hnf⟩ := c.fl.2.2.1.mem hm
    exact hnf vs ((Option.some.inj (e'.symm.trans he)) ▸ hd)
  exact ⟨oe, he, hz, ⟨vs, hd⟩, c.here.suite he hd c.na (fun z => nfr (List.mem_filterMap.mpr ⟨X.env, List.mem_cons_self, hf.trans (congrArg some z.symm)⟩))
    fun hm => by
      obtain ⟨e, he, q⟩ := List.mem_filterMap.mp hm
      exact nfr (List.mem_filterMap.mpr ⟨e, List.mem_cons_of_mem _ he, q⟩)⟩
/-- the clauses, one after the other -/
theorem mix_go (hs : X.stack = X.env :: X.outer) (hf : X.env.frame = some X.env.locals) (hN : X.N.Nodup) {Wout : WX} (tk : Takes X Wout) {D : Ends} : ∀ {hds : List ExceptHandler} {l : List Cl3}, HdsMix X hds l → Cght X pins σ H cls d a B sI s → wMix X.K Wout D l cls d σ H →
    wpAny (model X.prog X.w) X.A (handleBy (.ref a) X.env hds) (SP X pins D) X.xe s := by
  intro hds l hk c
  have ok := c.inv.ok
  obtain ⟨oe, he, hz, hfd, S⟩ := c.obj hf
  have LT : PySem.W.Looks (model X.prog X.w) s.heap (typeOf (.ref a)) cls := fun A Q E s k q => wpAny_typeOf_ref (k _ _ he) (by rw [hz.1]; exact q)
  have asked : ∀ {x : Str} {v : Value} {np : Pos} {b : Bool} {Q : Bool → Shared → Prop} {E : Value → Shared → Prop}, Names X x v → PySem.W.exmOne X.K cls v = some b → Q b s →
      wpAny (model X.prog X.w) (X.A.mark (some (.ref a))) (eval (.Name x np) X.env) (fun v1 s1 => wpAny (model X.prog X.w) (X.A.mark (some (.ref a))) (excMatches (.ref a) v1) Q E s1) E s := fun {x v np b Q E} hc hb q => by
    have q2 := (PySem.W.exm_one (M := model X.prog X.w) c.here.kIn LT hb).here (A := X.A.mark (some (.ref a))) (E := E) (s := s) q
    obtain ⟨hg, hdbg, hm | ⟨hm, hv, hnn⟩⟩ := hc
    · exact ld_glob (X := X.suite a ((a, oe) :: (X.pn ++ pins))) S hg hm q2 hdbg
    · exact ld_blt (X := X.suite a ((a, oe) :: (X.pn ++ pins))) S hg hm hv q2 hnn hdbg
  induction hk with
  | nil =>
    intro w
    refine wpAny_handleBy_nil ?_
    obtain ⟨_, _, _, oe', vs, T, _, _, he', _, hd, h1, _⟩ := id c.fl
    unfold PySem.passOn
    refine wpAny_bind (wpAny_field he' hd h1 ?_)
    rw [if_neg (show ¬ ((Value.ref T == Value.none) = true) from by simp)]
    have fin : wpAny (model X.prog X.w) X.A (setFlight (.ref a) X.env.frame) (fun _ s4 => wpAny (model X.prog X.w) X.A (throw (.ref a) : Sem Flow) (SP X pins D) X.xe s4) X.xe s := by
      rw [hf]
      exact HandSPX.setFlight_upZ c.fl fun h4 hh4 up4 => wpAny_throw (tk _ _ ⟨a, B, sI, pins, σ, H, cls, d, rfl, c.inv, c.nb, c.up.trans up4, .inr (.inr (by rw [hs]; exact hh4)), c.na, c.os, c.ag, w⟩)
    first
      | exact wpAny_bind (wpAny_pure (wpAny_bind fin))
      | exact wpAny_bind fin
  | @plain x v ts b₀ su np q hds2 l2 hc hsu r ih =>
    rintro ⟨b, hb, hyes, hno⟩
    refine wpAny_handleBy_cons (codeAny_handlers_test (asked hc hb ?_)) (by intro q; cases q)
    cases b with
    | false => exact ih (hno rfl)
    | true =>
      refine codeAny_handlers_suite (HandSPX.lands_againZ c.fl fun h4 fl4 up4 => ?_)
      obtain ⟨oe4, _, hz4, hf4, S4⟩ := (c.moved fl4 up4).obj hf
      refine wpAny_mono ((hsu a oe4 cls d (X.pn ++ pins) hz4 hf4).run [] _ _ H _ S4 (hyes rfl a c.na)) (fun f s6 hsp => ?_) (fun _ _ z => False.elim z)
      cases f with
      | ret u => exact hsp.imp fun v6 hsp => hsp.imp fun σ6 hsp => hsp.imp fun H6 h6 => ⟨h6.1.unsuite ok, h6.2⟩
      | _ => exact hsp.imp fun σ6 hsp => hsp.imp fun H6 h6 => ⟨h6.1.unsuite ok, h6.2⟩
  | @as x n i v ts b₀ su np q hds2 l2 hi hln hc hsu r ih =>
    rintro ⟨b, hb, hyes, hno⟩
    refine wpAny_handleBy_cons (codeAny_handlers_test (asked hc hb ?_)) (by intro q; cases q)
    cases b with
    | false => exact ih (hno rfl)
    | true =>
      refine codeAny_handlers_suite_as (HandSPX.lands_againZ c.fl fun h4 fl4 up4 => ?_)
      obtain ⟨oe4, _, hz4, hf4, S4⟩ := (c.moved fl4 up4).obj hf
      refine store_ok (X := X.suite a ((a, oe4) :: (X.pn ++ pins))) (v := .ref a) S4 hN hi (.inl hln) rfl (fun s5 S5 => ?_) (.inr hln)
      refine wpAny_mono ((hsu a oe4 cls d (X.pn ++ pins) hz4 hf4).run [] s5 _ H _ S5 (hyes rfl a c.na)) (fun f s6 hsp => ?_) (fun _ _ z => False.elim z)
      cases f with
      | ret u =>
        obtain ⟨v6, σ6, H6, S6, r6, q6⟩ := hsp
        exact gone_ok (S6.unsuite ok) hN hi hln fun s7 J7 => ⟨_, _, _, J7, r6, q6⟩
      | next =>
        obtain ⟨σ6, H6, S6, q6⟩ := hsp
        exact gone_ok (S6.unsuite ok) hN hi hln fun s7 J7 => ⟨_, _, J7, q6⟩
      | brk =>
        obtain ⟨σ6, H6, S6, q6⟩ := hsp
        exact gone_ok (S6.unsuite ok) hN hi hln fun s7 J7 => ⟨_, _, J7, q6⟩
      | cont =>
        obtain ⟨σ6, H6, S6, q6⟩ := hsp
        exact gone_ok (S6.unsuite ok) hN hi hln fun s7 J7 => ⟨_, _, J7, q6⟩
end
theorem ps_try_mix {X : Cx} {body : List Stmt} {h₀ : ExceptHandler} {hds : List ExceptHandler} {l : List Cl3} {pos : Pos} {tb : WX → TS} {Wout : WX} (hs : X.stack = X.env :: X.outer) (hf : X.env.frame = some X.env.locals) (hN : X.N.Nodup) (tk : Takes X Wout)
    (hb : ∀ (W : WX) (pn : List (Addr × Obj)) (xe : Value → Shared → Prop), Takes (X.tr pn xe) W → PassesOwn (model X.prog X.w) X.A X.env xe → PSs (X.tr pn xe) body (tb W)) (hh : HdsMix X (h₀ :: hds) l) :
    PS X (.Try body (h₀ :: hds) [] [] pos) (fun D σ H => tb (wMix X.K Wout D l) D σ H) := ⟨fun pins s σ H D I h => by
  have ok := I.ok
  refine wpAny_Try_except (wpAny_mono ((hb (wMix X.K Wout D l) (X.pn ++ pins) (fun e s₁ => wpAny (model X.prog X.w) X.A (noteFrame e X.env) (fun _ s₂ => wpAny (model X.prog X.w) X.A (setFlight e none) (fun _ s₃ =>
    wpAny (model X.prog X.w) X.A (handleBy e X.env (h₀ :: hds)) (SP X pins D) X.xe s₃) X.xe s₂) X.xe s₁) (fun u s1 xx => ?_) PassesOwn.looking).run [] s σ H D (I.toTry _) h) (fun f s1 hsp => ?_) (fun e s1 he => he))
  · obtain ⟨a, B, sI, pins', σ', H', cls, d, rfl, J', nb, up, sky, na, os, ag, w⟩ := xx
    have sky' : Sky B (X.env :: X.outer) a (Zc cls d) X.env.locals s1.heap := by rw [← hs]; exact sky
    exact Sky.land Zc.steady (by rw [ok.frames, hs]) hf sky' fun h3 fl3 up3 => mix_go hs hf hN tk hh ⟨J'.ofTry ok, nb, fl3, up.trans up3, na, os, ag⟩ w
  · cases f with
    | next => exact wpAny_execs_nil (hsp.imp fun σ' hsp => hsp.imp fun H' h' => ⟨h'.1.ofTry ok, h'.2⟩)
    | ret u => exact hsp.imp fun v hsp => hsp.imp fun σ' hsp => hsp.imp fun H' h' => ⟨h'.1.ofTry ok, h'.2⟩
    | _ => exact hsp.imp fun σ' hsp => hsp.imp fun H' h' => ⟨h'.1.ofTry ok, h'.2⟩⟩
/-! ### what a clause's suite says -/
def cstV : PV → V
  | .bl b => .bl b
  | .int i => .int i
  | .str s => .str ⟨s.toArray⟩
  | _ => .non
def teX (C : Addr) (j : Nat) (a : Addr) (cls : Value) (d : Option Addr) : XX → TE
  | .cst v => tC (cstV v)
  | .fld f => tXf a cls d C (f : Str) (tVar j)
  | .pair x y => tTup (tCons (teX C j a cls d x) (tCons (teX C j a cls d y) tNil))
  | .lst1 x => tLst (tCons (teX C j a cls d x) tNil)
  | .lst2 x y => tLst (tCons (teX C j a cls d x) (tCons (teX C j a cls d y) tNil))
theorem pe_varS {X : Cx} {c : Kx} (hN : X.N = c.N) (hsc : X.env.scope = c.sc) {i : Nat} {x : Str} {pos : Pos} (h : varB c i x = true) : PE X (.Name x pos) (tVar i) := by
  unfold varB okN at h
  simp only [Bool.and_eq_true, decide_eq_true_eq, Bool.not_eq_true'] at h
  exact pe_var (by rw [hN]; exact h.1) (vis_of (by rw [hsc]; exact h.2.1)) h.2.2.1 h.2.2.2
section
variable {X : Cx} {c : Kx} {cl : String → Option Addr}
theorem pe_x (hN : X.N = c.N) (hsc : X.env.scope = c.sc) {a C : Addr} {oe : Obj} {cls : Value} {d : Option Addr} {pn : List (Addr × Obj)} (hz : Zc cls d oe) (hf : ∃ vs, oe.data = .fields vs) {ex : Option Nat} {on : Option Str} : ∀ {px : XX} {p : Expr}, chkX (exN ex on) px c p = true →
    (∀ f ∈ fldsX px, XfC X.K C ∧ PySem.W.findIn X.K (.ref C) f = some none) → PE (X.suite a ((a, oe) :: pn)) p (teX C (ex.getD 0) a cls d px)
  | .cst v, p, h, hx => by
    clear hx
    cases p with
    | Constant q j pos =>
      have h' : cstB v q = true := h
      unfold cstB at h'
      split at h'
      · exact pe_non
      · rename_i b d
        cases (show b = d by simpa using h')
        exact pe_bl
      · rename_i i i2
        cases (show i = i2 by simpa using h')
        exact pe_int
      · rename_i x y
        cases (show y = _ by simpa using h')
        exact pe_str
      · cases h'
    | _ => exact ff h
  | .fld f, p, h, hx => by
    cases p with
    | Attribute pa x pos =>
      cases pa with
      | Name y q =>
        unfold chkX at h
        split at h
        · rename_i y' q' x' _ j n ep ee
          cases ep
          obtain ⟨h1, h20⟩ := and_t h
          obtain ⟨h2, h3⟩ := and_t h20
          have e2 := dec_t h2
          subst e2
          obtain ⟨T, hno⟩ := hx f (by simp [fldsX])
          have ej : ex.getD 0 = j := by
            unfold exN at ee
            split at ee
            · cases ee; rfl
            · cases ee
          show PE _ _ (tXf a cls d C _ (tVar (ex.getD 0)))
          rw [ej]
          exact pe_xf T hno hz hf (pe_varS (X := X.suite a ((a, oe) :: pn)) hN hsc h3)
        · cases h
      | _ => exact ff h
    | _ => exact ff h
  | .pair x y, p, h, hx => by
    match p, h with
    | .Tuple [pa, pb] kk pos, h =>
      obtain ⟨h1, h20⟩ := and_t h
      obtain ⟨h2, h30⟩ := and_t h20
      obtain ⟨h3, h4⟩ := and_t h30
      exact pe_tup (pa_cons (pe_x hN hsc hz hf h3 fun f q => hx f (List.mem_append_left _ q)) (pa_cons (pe_x hN hsc hz hf h4 fun f q => hx f (List.mem_append_right _ q)) pa_nil (star_cons h2)) (star_cons h1))
  | .lst1 x, p, h, hx => by
    match p, h with
    | .List [pa] pos, h =>
      obtain ⟨h1, h3⟩ := and_t h
      exact pe_lst (pa_cons (pe_x hN hsc hz hf h3 hx) pa_nil (star_cons h1))
  | .lst2 x y, p, h, hx => by
    match p, h with
    | .List [pa, pb] pos, h =>
      obtain ⟨h1, h20⟩ := and_t h
      obtain ⟨h2, h30⟩ := and_t h20
      obtain ⟨h3, h4⟩ := and_t h30
      exact pe_lst (pa_cons (pe_x hN hsc hz hf h3 fun f q => hx f (List.mem_append_left _ q)) (pa_cons (pe_x hN hsc hz hf h4 fun f q => hx f (List.mem_append_right _ q)) pa_nil (star_cons h2)) (star_cons h1))
theorem ExR.mono {K : PySem.W.Frag} {W W' : Wd} {H H' : Hp} {cls : Value} {d : Option Addr} {cn : String} {fs : List (String × PV)} (l : W.le W') (e : ∀ a o, H a = some o → H' a = some o) (x : ExR K cl W H cls d cn fs) : ExR K cl W' H' cls d cn fs := by
  obtain ⟨C, h1, h2, h3⟩ := x
  refine ⟨C, h1, h2, h3.imp (fun h => h) fun ⟨dx, q, n1, n2, n3, n4⟩ => ⟨dx, q, n1, n2, e _ _ n3, RepF.mono l _ _ n4⟩⟩
theorem upd_keeps {H : Hp} {q : Addr} {o : HO} (h : H q = none) : ∀ a u, H a = some u → upd H q o a = some u := fun a u e => by
  rw [upd_ne (fun z => by subst z; rw [h] at e; cases e)]; exact e
theorem jx {K : PySem.W.Frag} {a : Addr} {cls : Value} {d : Option Addr} {h cn : String} {fs : List (String × PV)} {C : Addr} {ex : Option Nat} {px : XX} (hC : fldsX px ≠ [] → cl h = some C) {W0 : Wd} {H0 : Hp} {s : Sg} {σ : L2.St} (hj : ∀ j, ex = some j → σ[j]? = some (some (.ref a))) :
    ∀ {W : Wd} {H : Hp} {Q : VK} {v : PV}, Rl K cl W0 H0 W s σ H → ExR K cl W H cls d cn fs → evX (ex.isSome && h == cn) fs px = some v → (∀ y W' H', W.le W' → Rl K cl W0 H0 W' s σ H' → ExR K cl W' H' cls d cn fs → Rep K cl W' v y → Q y H') → teX C (ex.getD 0) a cls d px σ H Q := by
  induction px with
  | cst v0 =>
    intro W H Q v R x e hq
    have e2 : (if flatP v0 then some v0 else none) = some v := e
    split at e2
    · rename_i hfl
      cases e2
      refine hq (cstV v0) W H (.refl W) R x ?_
      cases v0 with
      | non => unfold Rep; rfl
      | bl b => unfold Rep; rfl
      | int i => unfold Rep; rfl
      | str z => unfold Rep; rfl
      | _ => simp [flatP] at hfl
    · cases e2
  | fld f =>
    intro W H Q v R x e hq
    have e2 : (if (ex.isSome && h == cn) = true then (fs.find? fun e => e.1 == f).map (·.2) else none) = some v := e
    clear e
    split at e2
    · rename_i hb
      obtain ⟨hb1, hb2⟩ := and_t hb
      obtain ⟨j, rfl⟩ := Option.isSome_iff_exists.mp hb1
      have ehc : h = cn := eq_of_beq hb2
      subst ehc
      obtain ⟨C', h1, h2, h3⟩ := id x
      have eC : C' = C := Option.some.inj (h1.symm.trans (hC (by simp [fldsX])))
      subst eC
      rcases h3 with ⟨h3, _⟩ | ⟨dx, l, h3, h4, h5, h6⟩
      · subst h3; cases e2
      · obtain ⟨y, ey, ry⟩ := repF_get h6 e2
        exact ⟨_, hj j rfl, rfl, h2, dx, l, y, h4, h5, ey, hq y W H (.refl W) R x ry⟩
    · cases e2
  | pair x y ih1 ih2 =>
    intro W H Q v R xr e hq
    have e : (match evX (ex.isSome && h == cn) fs x, evX (ex.isSome && h == cn) fs y with
      | some x, some y => some (PV.tup [x, y])
      | _, _ => none) = some v := e
    split at e
    · rename_i v1 v2 e1 e2
      cases e
      refine ih1 (fun n => hC fun z => n (List.append_eq_nil_iff.mp z).1) R xr e1 fun y1 W1 H1 l1 R1 x1 r1 => ?_
      refine ih2 (fun n => hC fun z => n (List.append_eq_nil_iff.mp z).2) R1 x1 e2 fun y2 W2 H2 l2 R2 x2 r2 => ?_
      refine ⟨by show 2 ≤ sizeLine; rw [sizeLine_eq]; omega, fun q hn => ?_⟩
      have la := (Ext.add (o := .tup [y1, y2]) R2.rm hn).le
      refine hq (.ref q) (W2.add q (.tup [y1, y2])) _ (l1.trans (l2.trans la)) (R2.step (Ext.add R2.rm hn) (R2.rm.add hn)) (x2.mono la (upd_keeps hn)) ?_
      unfold Rep
      exact ⟨q, _, rfl, upd_same, RepL.mono la _ _ (RepL.cons (Rep.mono l2 _ _ r1) (RepL.cons r2 RepL.nil))⟩
    · cases e
  | lst1 x ih1 =>
    intro W H Q v R xr e hq
    have e : (match evX (ex.isSome && h == cn) fs x with
      | some x => some (PV.lst [x])
      | none => none) = some v := e
    split at e
    · rename_i v1 e1
      cases e
      refine ih1 hC R xr e1 fun y1 W1 H1 l1 R1 x1 r1 => ?_
      refine ⟨by show 1 ≤ sizeLine; rw [sizeLine_eq]; omega, fun q hn => ?_⟩
      have la := (Ext.add (o := .lst [y1]) R1.rm hn).le
      refine hq (.ref q) (W1.add q (.lst [y1])) _ (l1.trans la) (R1.step (Ext.add R1.rm hn) (R1.rm.add hn)) (x1.mono la (upd_keeps hn)) ?_
      unfold Rep
      exact ⟨q, _, rfl, upd_same, RepL.mono la _ _ (RepL.cons r1 RepL.nil)⟩
    · cases e
  | lst2 x y ih1 ih2 =>
    intro W H Q v R xr e hq
    have e : (match evX (ex.isSome && h == cn) fs x, evX (ex.isSome && h == cn) fs y with
      | some x, some y => some (PV.lst [x, y])
      | _, _ => none) = some v := e
    split at e
    · rename_i v1 v2 e1 e2
      cases e
      refine ih1 (fun n => hC fun z => n (List.append_eq_nil_iff.mp z).1) R xr e1 fun y1 W1 H1 l1 R1 x1 r1 => ?_
      refine ih2 (fun n => hC fun z => n (List.append_eq_nil_iff.mp z).2) R1 x1 e2 fun y2 W2 H2 l2 R2 x2 r2 => ?_
      refine ⟨by show 2 ≤ sizeLine; rw [sizeLine_eq]; omega, fun q hn => ?_⟩
      have la := (Ext.add (o := .lst [y1, y2]) R2.rm hn).le
      refine hq (.ref q) (W2.add q (.lst [y1, y2])) _ (l1.trans (l2.trans la)) (R2.step (Ext.add R2.rm hn) (R2.rm.add hn)) (x2.mono la (upd_keeps hn)) ?_
      unfold Rep
      exact ⟨q, _, rfl, upd_same, RepL.mono la _ _ (RepL.cons (Rep.mono l2 _ _ r1) (RepL.cons r2 RepL.nil))⟩
    · cases e
end
/-- the clauses' wishes -/
def clX (mg : Str → Option Value) (cl : String → Option Addr) : XHs → List Cl3
  | .nil => []
  | .cons h ex i px r => ((mg h).getD .none, ex, fun a cls d => tAsg (teX ((cl h).getD 0) (ex.getD 0) a cls d px) (gName i)) :: clX mg cl r
section
variable {cl : String → Option Addr} {X : Cx} {c : Kx} {k : Nat} {Wx : WX} {F : Fn}
theorem hds_of (g : Gs cl X c k Wx F) {es : List String} : ∀ {hs : XHs} {ps : List ExceptHandler}, chkH hs c ps = true → HsN (gv cl X) es hs → HdsMix X ps (clX X.mg cl hs)
  | .nil, ps, h, _ => by
    cases ps with
    | nil => exact .nil
    | cons _ _ => exact ff h
  | .cons h ex i px r, ps, hc, nd => by
      obtain ⟨np, on, y, py, pe, spos, hpos, q, rfl, h2, h3, h4, h5, h6, h7, h8⟩ := chkH_cons hc
      obtain ⟨⟨v, hv, _, hx⟩, nr⟩ := nd
      obtain ⟨g1, g2, g3⟩ := g.toGd.gl h2
      obtain ⟨l1, l2⟩ := g.toGd.loc h4
      have ev : (X.mg h).getD .none = v := by rw [show X.mg h = some v from hv]; rfl
      have nm : Names X h ((X.mg h).getD .none) := ⟨g1, g2, .inl (by rw [ev]; exact hv)⟩
      have su : SuOk X [.Assign [.Name y py] pe spos] (fun a cls d => tAsg (teX ((cl h).getD 0) (ex.getD 0) a cls d px) (gName i)) := fun a oe cls d pn hz hf => by
        have hp := pe_x (X := X) (a := a) (C := (cl h).getD 0) (oe := oe) (cls := cls) (d := d) (pn := pn) g.N g.sc hz hf h7 (fun f hf => by
          obtain ⟨C, e1, e2, e3⟩ := hx f hf
          rw [show cl h = some C from e1]
          exact ⟨e2, e3⟩)
        exact pss_one (ps_set (X := X.suite a ((a, oe) :: pn)) g.nd (by rw [show (X.suite a ((a, oe) :: pn)).N = c.N from g.N]; exact h3) l1 hp (no_swap h5) l2)
      unfold exB at h6
      cases ex with
      | none =>
        cases on with
        | none => exact .plain nm su (hds_of g h8 nr)
        | some n => cases h6
      | some j =>
        cases on with
        | none => cases h6
        | some n =>
          obtain ⟨h9, h60⟩ := and_t h6
          obtain ⟨h10, h11⟩ := and_t h60
          exact .as (by rw [g.N]; exact dec_t h9) (by show X.env.scope.names.lookup n = _; rw [g.sc]; exact dec_t h10) nm su (hds_of g h8 nr)
theorem Rl.poison {K : PySem.W.Frag} {W0 W : Wd} {H0 H : Hp} {s : Sg} {σ : L2.St} {j : Nat} {x : Option V} (R : Rl K cl W0 H0 W s σ H) : Rl K cl W0 H0 W { s with env := s.env.set j .non } (σ.set j x) H := by
  have R1 := R.wipe (own := [j])
  have key : ∀ (i : Nat) q, (s.env.set j .non)[i]? = some q → q ≠ .non → i ≠ j := fun i q h hq e => by
    subst e
    by_cases hi : i < s.env.length
    · rw [List.getElem?_set_self hi] at h; cases h; exact hq rfl
    · rw [List.getElem?_eq_none (by simpa using hi)] at h; cases h
  have sj : ∀ i, i ≠ j → (σ.set j x)[i]? = (L2.wipe σ [j])[i]? := fun i hi => by
    rw [List.getElem?_set_ne (Ne.symm hi), wipe_get, if_neg]
    intro q
    exact hi (by simpa using q.1)
  refine ⟨R1.rm, R1.si, ?_, fun i p h => ?_, fun i p h => ?_, fun i i' p q a h1 h2 e1 e2 => ?_⟩
  · have := R.len; simpa using this
  · rw [sj i (key i _ h (by intro q; cases q))]; exact R1.val i p h
  · rw [sj i (key i _ h (by intro q; cases q))]; exact R1.own i p h
  · rw [sj i (key i _ h1 (by intro q; cases q))] at e1
    rw [sj i' (key i' _ h2 (by intro q; cases q))] at e2
    exact R1.dist i i' p q a h1 h2 e1 e2
theorem go_h (g : Gs cl X c k Wx F) {es : List String} {W0 W1 : Wd} {H0 : Hp} {out : Lk.R Fl} {s' s1 : Sg} {D : Ends} {cn : String} {fs : List (String × PV)} (hes : cn ∈ es) (eo : EO X.K cl Wx W0 H0 W1 out s' D) : ∀ {hs : XHs} {ps : List ExceptHandler}, chkH hs c ps = true → HsN (gv cl X) es hs → evH hs cn fs s1 = some (out, s') →
    ∀ (W' : Wd) (σ : L2.St) (H : Hp) (cls : Value) (d : Option Addr), W1.le W' → Rl X.K cl W0 H0 W' s1 σ H → ExR X.K cl W' H cls d cn fs → wMix X.K Wx D (clX X.mg cl hs) cls d σ H
  | .nil, ps, h, _, e => fun W' σ H cls d l R x => by
    have e : (some (Lk.R.exc cn fs, s1) : Rs Fl) = some (out, s') := e
    cases e
    exact eo.xx cn fs rfl cls d W' σ H l R x
  | .cons h ex i px r, ps, hc, nd, e => fun W' σ H cls d l R x => by
      obtain ⟨np, on, y, py, pe, spos, hpos, q, rfl, h2, h3, h4, h5, h6, h7, h8⟩ := chkH_cons hc
      have nd' := nd
      obtain ⟨⟨v, hv, hexm, hx⟩, nr⟩ := nd'
      obtain ⟨C, hC, hCe⟩ := hexm cn hes
      obtain ⟨C', hC1, hC2, _⟩ := id x
      have eC : C' = C := Option.some.inj (hC1.symm.trans hC)
      subst eC
      subst hC2
      have ev : (X.mg h).getD .none = v := by rw [show X.mg h = some v from hv]; rfl
      refine ⟨excIs h cn, by show PySem.W.exmOne X.K _ ((X.mg h).getD .none) = _; rw [ev]; exact hCe, fun hb a na => ?_, fun hb => ?_⟩
      · have e : (if excIs h cn then op1 (evX (ex.isSome && h == cn) fs px) (fun v => if i < s1.env.length ∧ exLt s1.env.length ex = true then rt Fl.nx { s1 with env := (wipeX s1.env ex).set i (.val v) } else none) else evH r cn fs s1) = some (out, s') := e
        rw [hb, if_pos rfl] at e
        obtain ⟨w, ew, e2⟩ := op1_cases e
        split at e2
        · rename_i hi
          obtain ⟨rfl, rfl⟩ := rt_inj e2
          -- the state in the suite
          cases ex with
          | none =>
            show tAsg (teX _ _ a _ d px) (gName i) D σ H
            refine jx (K := X.K) (cl := cl) (h := h) (cn := cn) (fs := fs) (ex := none) (s := s1) (W0 := W0) (H0 := H0) (fun hn => ?_) (fun j hj => by cases hj) R x ew fun z W2 H2 l2 R2 x2 rz => ?_
            · cases hfl : fldsX px with
              | nil => exact absurd hfl hn
              | cons f fr =>
                obtain ⟨C2, e3, _⟩ := hx f (by rw [hfl]; exact List.mem_cons_self)
                rw [show cl h = some C2 from e3]; rfl
            · exact eo.nx rfl W2 _ H2 (l.trans l2) (R2.bind rz hi.1)
          | some j =>
            have hji : j ≠ i := by
              cases on with
              | none => cases h6
              | some n =>
                obtain ⟨h9, h60⟩ := and_t h6
                obtain ⟨h10, h11⟩ := and_t h60
                exact dec_t h11
            have hjl : j < σ.length := by
              rw [← R.len]
              exact of_decide_eq_true hi.2
            have Rp := R.poison (j := j) (x := some (.ref a))
            show tAsg (teX _ _ a _ d px) (gName i) _ (σ.set j (some (.ref a))) H
            refine jx (K := X.K) (cl := cl) (h := h) (cn := cn) (fs := fs) (ex := some j) (s := { s1 with env := s1.env.set j .non }) (W0 := W0) (H0 := H0) (fun hn => ?_) (fun j' hj' => by cases hj'; exact List.getElem?_set_self hjl) Rp x ew fun z W2 H2 l2 R2 x2 rz => ?_
            · cases hfl : fldsX px with
              | nil => exact absurd hfl hn
              | cons f fr =>
                obtain ⟨C2, e3, _⟩ := hx f (by rw [hfl]; exact List.mem_cons_self)
                rw [show cl h = some C2 from e3]; rfl
            · have R3 := (R2.bind rz (i := i) (by simpa using hi.1)).poison (j := j) (x := none)
              show D.nx (((σ.set j (some (.ref a))).set i (some z)).set j none) H2
              refine eo.nx rfl W2 _ H2 (l.trans l2) ?_
              have ee : ((s1.env.set j .non).set i (.val w)).set j .non = (s1.env.set j .non).set i (.val w) := by
                refine List.ext_getElem? fun m => ?_
                by_cases hm : m = j
                · subst hm
                  rw [List.getElem?_set, List.getElem?_set_ne (Ne.symm hji), List.getElem?_set]
                  simp
                · rw [List.getElem?_set_ne (Ne.symm hm)]
              have R3' : Rl X.K cl W0 H0 W2 { s1 with env := ((s1.env.set j .non).set i (.val w)).set j .non } _ H2 := R3
              rw [ee] at R3'
              exact R3'
        · cases e2
      · have e : (if excIs h cn then op1 (evX (ex.isSome && h == cn) fs px) (fun v => if i < s1.env.length ∧ exLt s1.env.length ex = true then rt Fl.nx { s1 with env := (wipeX s1.env ex).set i (.val v) } else none) else evH r cn fs s1) = some (out, s') := e
        rw [hb] at e
        exact go_h g hes eo h8 nr e W' σ H _ d l R x
end
theorem Gs.tr {cl : String → Option Addr} {X : Cx} {c : Kx} {k : Nat} {Wx W : WX} {F : Fn} (g : Gs cl X c k Wx F) {pn : List (Addr × Obj)} {xe : Value → Shared → Prop} (tk : Takes (X.tr pn xe) W) (po : PassesOwn (model X.prog X.w) X.A X.env xe) : Gs cl (X.tr pn xe) c k W F :=
  ⟨⟨g.N, g.nd, g.sc, g.kind, g.calm, g.room, tk, g.fn, g.blt, g.self⟩, po, g.stk, g.frm⟩
theorem ss_try {es : List String} {body : XSs} {hs : XHs} (Sb : SSs body) : SS (.try_ es body hs) := fun {cl X c k Wx F p} g h nd => by
  cases p with
  | Try pb phs pe pf pos =>
    cases phs with
    | nil => exact ff h
    | cons ph phs =>
      cases pe with
      | cons _ _ => exact ff h
      | nil =>
        cases pf with
        | cons _ _ => exact ff h
        | nil =>
          obtain ⟨h1, h2⟩ := and_t h
          obtain ⟨nb, nh⟩ := nd
          refine ⟨_, ps_try_mix (tb := fun W D σ H => ∀ pn xe, Takes (X.tr pn xe) W → PassesOwn (model X.prog X.w) X.A X.env xe → ∃ t, PSs (X.tr pn xe) pb t ∧ t D σ H) g.stk g.frm g.nd g.tk
            (fun W pn xe tk po => ⟨fun pins s σ H D I q => let ⟨_, hp, ht⟩ := q pn xe tk po; hp.run pins s σ H D I ht⟩) (hds_of g h2 nh), ?_⟩
          intro W0 H0 W s σ H D out s' R e eo
          show ∀ pn xe, _
          intro pn xe tk po
          obtain ⟨t, pt, J⟩ := Sb (g.tr tk po) h1 nb
          refine ⟨t, pt, ?_⟩
          have e : (match evSs body F s with
            | some (.exc cn fs, s1) => if cn ∈ es then evH hs cn fs s1 else none
            | r => r) = some (out, s') := e
          cases eb : evSs body F s with
          | none => rw [eb] at e; cases e
          | some q =>
            obtain ⟨o, s1⟩ := q
            rw [eb] at e
            cases o with
            | ok fl =>
              cases e
              exact J W0 H0 W s σ H D _ _ R eb ⟨eo.nx, eo.bk, eo.ct, eo.rt, fun _ _ q => nomatch q⟩
            | exc cn fs =>
              have e : (if cn ∈ es then evH hs cn fs s1 else none) = some (out, s') := e
              split at e
              · rename_i hes
                refine J W0 H0 W s σ H D _ s1 R eb ⟨fun q => (nomatch q), fun q => (nomatch q), fun q => (nomatch q), fun _ _ q => (nomatch q), fun c2 fs2 q cls d W' σ' H' l' R' x => ?_⟩
                cases q
                exact go_h g hes eo h2 nh e W' σ' H' cls d l' R' x
              · cases e
  | _ => exact ff h
end Lk

namespace Lk
open PySem L2 PySem.Spec PyProof.Rows
theorem sss_nil : SSs .nil := fun {cl X c k Wx F p} g h nd => by
  cases p with
  | nil =>
    refine ⟨_, pss_nil, ?_⟩
    intro W0 H0 W s σ H D out s' R h eo
    obtain ⟨rfl, rfl⟩ := rt_inj (show rt Fl.nx s = _ from h)
    exact eo.nx rfl W σ H (.refl W) R
  | cons _ _ => exact ff h
theorem sss_cons {a : XS} {r : XSs} (Sa : SS a) (Sr : SSs r) : SSs (.cons a r) := fun {cl X c k Wx F p} g h nd => by
  cases p with
  | nil => exact ff h
  | cons p q =>
    obtain ⟨h1, h2⟩ := and_t h
    obtain ⟨t, pt, Jt⟩ := Sa g h1 nd.1
    obtain ⟨u, pu, Ju⟩ := Sr g h2 nd.2
    refine ⟨_, pss_cons pt pu, ?_⟩
    intro W0 H0 W s σ H D out s' R h eo
    have h : bd (evS a F s) (fun fl s => match fl with
      | .nx => evSs r F s
      | fl => rt fl s) = some (out, s') := h
    show t { D with nx := u D } σ H
    rcases bd_cases h with ⟨fl, s1, h3, h4⟩ | ⟨cc, fs, h3, rfl⟩
    · refine Jt W0 H0 W s σ H _ _ s1 R h3 ⟨fun e W' σ' H' l R' => ?_, fun e W' σ' H' l R' => ?_, fun e W' σ' H' l R' => ?_, fun v o e x W' σ' H' l R' rr => ?_, fun _ _ e => nomatch e⟩
      · cases e
        exact Ju W0 H0 W' s1 σ' H' D out s' R' h4 (eo.le l)
      · cases e
        obtain ⟨rfl, rfl⟩ := rt_inj (show rt Fl.brk s1 = _ from h4)
        exact eo.bk rfl W' σ' H' l R'
      · cases e
        obtain ⟨rfl, rfl⟩ := rt_inj (show rt Fl.ct s1 = _ from h4)
        exact eo.ct rfl W' σ' H' l R'
      · cases e
        obtain ⟨rfl, rfl⟩ := rt_inj (show rt (Fl.ret v o) s1 = _ from h4)
        exact eo.rt v o rfl x W' σ' H' l R' rr
    · exact Jt W0 H0 W s σ H _ _ s' R h3 ⟨fun e => (nomatch e), fun e => (nomatch e), fun e => (nomatch e), fun _ _ e => (nomatch e), fun c fs e => eo.xx c fs e⟩
theorem ss_ifs {d : XE} {a b : XSs} (Sa : SSs a) (Sb : SSs b) : SS (.ifs d a b) := fun {cl X c k Wx F p} g h nd => by
  cases p with
  | If pd pa pb pos =>
    obtain ⟨h1, h20⟩ := and_t h
    obtain ⟨h2, h30⟩ := and_t h20
    obtain ⟨h3, h4⟩ := and_t h30
    obtain ⟨td, hd, _, Jd⟩ := (se d).pt g.toGd h2 h1 nd.1
    obtain ⟨ta, ha, Ja⟩ := Sa g h3 nd.2.1
    obtain ⟨tb, hb, Jb⟩ := Sb g h4 nd.2.2
    refine ⟨_, ps_if hd ha hb, ?_⟩
    intro W0 H0 W s σ H D out s' R h eo
    refine JG.go (Q := fun b H1 => if b = true then ta D σ H1 else tb D σ H1) Jd R h eo.hx (fun t s1 h5 x W1 H1 l1 R1 rp => ?_)
    cases (show x = t from rp)
    cases t with
    | true => exact Ja W0 H0 W1 s1 σ H1 D out s' R1 h5 (eo.le l1)
    | false => exact Jb W0 H0 W1 s1 σ H1 D out s' R1 h5 (eo.le l1)
  | _ => exact ff h
theorem ss_for {t : XT} {it : XI} {body : XSs} (Sb : SSs body) : SS (.for_ t it body) := fun {cl X c k Wx F p} g h nd => by
  cases p with
  | For pt pi pb pe pos =>
    cases pe with
    | cons _ _ => exact ff h
    | nil =>
      obtain ⟨h1, h20⟩ := and_t h
      obtain ⟨h2, h30⟩ := and_t h20
      obtain ⟨h3, h4⟩ := and_t h30
      obtain ⟨wi, hi, Ji⟩ := si it g.toGd h3 nd.1
      obtain ⟨gg, hg, og⟩ := sg t g.toGd h2
      obtain ⟨tb, hb, Jb⟩ := Sb g h4 nd.2
      refine ⟨_, ps_for g.po g.calm hi hg hb (no_fold h1), ?_⟩
      intro W0 H0 W s σ H D out s' R h eo
      refine JG.go (Q := fun J H1 => ∃ W : Nat → Nat → L2.St → Hp → Prop, (∃ m, W 0 m σ H1) ∧ ∀ i m σ H, W i m σ H →
        (J.stop i H ∧ D.nx σ H) ∨ (J.go i H ∧ ∃ N : L2.St → Hp → Prop, (∀ σ' H', N σ' H' → ∃ m', m' < m ∧ W (i + 1) m' σ' H') ∧ ∀ x H', J.yld i H x H' → gg x σ H' fun σ2 H2 => tb { D with nx := N, ct := N, bk := D.nx } σ2 H2)) Ji R h eo.hx (fun xs s1 h5 J W1 H1 l1 R1 wp => ?_)
      obtain ⟨G, Y, w, hG, hY⟩ := wp
      refine for_it w (fun i σ H => ∃ W' s3, W1.le W' ∧ Rl X.K cl W0 H0 W' s3 σ H ∧ forL (fun x s => op1 (bindT t x s) fun s => evSs body F s) (xs.drop i) s3 = some (out, s')) ?_ ?_ ?_ ?_
      · exact ⟨W1, s1, .refl _, R1, by simpa using h5⟩
      · rintro i σ H hi ⟨W', s3, l, R3, _⟩
        exact hG W' H l R3.rm.sub
      · rintro i x σ H H' hi ⟨W', s3, l, R3, hc⟩ hy
        obtain ⟨p, hp, new⟩ := hY i H x H' hi hy W' l R3.rm.sub
        have hdr : xs.drop i = p :: xs.drop (i + 1) := by
          obtain ⟨h1, h2⟩ := List.getElem?_eq_some_iff.mp hp
          rw [List.drop_eq_getElem_cons h1, h2]
        rw [hdr] at hc
        have hc : bd (op1 (bindT t p s3) fun s => evSs body F s) (fun fl s' => match fl with
          | .nx => forL (fun x s => op1 (bindT t x s) fun s => evSs body F s) (xs.drop (i + 1)) s'
          | .ct => forL (fun x s => op1 (bindT t x s) fun s => evSs body F s) (xs.drop (i + 1)) s'
          | .brk => rt .nx s'
          | .ret v o => rt (.ret v o) s') = some (out, s') := hc
        obtain ⟨W2, l2, R5, r5⟩ := fin_new R3 new
        have r5' : Rep X.K cl W2 p x := r5
        have la := l1.trans (l.trans l2)
        rcases bd_cases hc with ⟨fl, s5, hf, hk⟩ | ⟨cc, fs, hf, rfl⟩
        · obtain ⟨s4, hb4, hf2⟩ := op1_cases hf
          refine og _ _ W2 _ s4 σ H' x p _ R5 r5' hb4 fun σ2 R6 _ => ?_
          refine Jb W0 H0 W2 s4 σ2 H' _ _ s5 R6 hf2 ⟨fun e W' σ' H' l' R' => ?_, fun e W' σ' H' l' R' => ?_, fun e W' σ' H' l' R' => ?_, fun v o e x W' σ' H' l' R' rr => ?_, fun _ _ e => nomatch e⟩
          · cases e
            exact ⟨W', s5, l.trans (l2.trans l'), R', hk⟩
          · cases e
            obtain ⟨rfl, rfl⟩ := rt_inj (show rt Fl.nx s5 = _ from hk)
            exact eo.nx rfl W' σ' H' (la.trans l') R'
          · cases e
            exact ⟨W', s5, l.trans (l2.trans l'), R', hk⟩
          · cases e
            obtain ⟨rfl, rfl⟩ := rt_inj (show rt (Fl.ret v o) s5 = _ from hk)
            exact eo.rt v o rfl x W' σ' H' (la.trans l') R' rr
        · obtain ⟨s4, hb4, hf2⟩ := op1_cases hf
          refine og _ _ W2 _ s4 σ H' x p _ R5 r5' hb4 fun σ2 R6 _ => ?_
          exact Jb W0 H0 W2 s4 σ2 H' _ _ s' R6 hf2 ⟨fun e => (nomatch e), fun e => (nomatch e), fun e => (nomatch e), fun _ _ e => (nomatch e), fun c fs e => (eo.le la).xx c fs e⟩
      · rintro σ H ⟨W', s3, l, R3, hc⟩
        have hdr : xs.drop xs.length = [] := by simp
        rw [hdr] at hc
        obtain ⟨rfl, rfl⟩ := rt_inj (show rt Fl.nx s3 = _ from hc)
        exact eo.nx rfl W' σ H (l1.trans l) R3
  | _ => exact ff h
theorem ss_whl {n : Nat} {d : XE} {body : XSs} (Sb : SSs body) : SS (.whl n d body) := fun {cl X c k Wx F p} g h nd => by
  cases p with
  | While pd pb pe pos =>
    cases pe with
    | cons _ _ => exact ff h
    | nil =>
      obtain ⟨h1, h20⟩ := and_t h
      obtain ⟨h2, h3⟩ := and_t h20
      obtain ⟨td, hd, _, Jd⟩ := (se d).pt g.toGd h2 h1 nd.1
      obtain ⟨tb, hb, Jb⟩ := Sb g h3 nd.2
      refine ⟨_, ps_while g.po hd hb, ?_⟩
      intro W0 H0 W s σ H D out s' R h eo
      refine ⟨fun m σ H => ∃ W' s3, W.le W' ∧ Rl X.K cl W0 H0 W' s3 σ H ∧ whlL (fun s => tst d (evR d F s) s) (fun s => evSs body F s) m s3 = some (out, s'), ⟨n, W, s, .refl _, R, h⟩, ?_⟩
      rintro m σ H ⟨W1, s1, l1, R1, hc⟩
      cases m with
      | zero => cases hc
      | succ m =>
        have hc : bd (tst d (evR d F s1) s1) (fun t s1 => match t with
          | false => rt .nx s1
          | true => bd (evSs body F s1) fun fl s' => match fl with
            | .nx => whlL (fun s => tst d (evR d F s) s) (fun s => evSs body F s) m s'
            | .ct => whlL (fun s => tst d (evR d F s) s) (fun s => evSs body F s) m s'
            | .brk => rt .nx s'
            | .ret v o => rt (.ret v o) s') = some (out, s') := hc
        refine Jd.go R1 hc (eo.le l1).hx (fun t s2 h5 x W2 H2 l2 R2 rp => ?_)
        cases (show x = t from rp)
        have la := l1.trans l2
        cases t with
        | false =>
          obtain ⟨rfl, rfl⟩ := rt_inj (show rt Fl.nx s2 = _ from h5)
          exact eo.nx rfl W2 σ H2 la R2
        | true =>
          show ∃ N, _
          refine ⟨fun σ H => ∃ W' s3, W.le W' ∧ Rl X.K cl W0 H0 W' s3 σ H ∧ whlL (fun s => tst d (evR d F s) s) (fun s => evSs body F s) m s3 = some (out, s'), fun σ' H' w => ⟨m, Nat.lt_succ_self m, w⟩, ?_⟩
          rcases bd_cases h5 with ⟨fl, s5, hf, hk⟩ | ⟨cc, fs, hf, rfl⟩
          · refine Jb W0 H0 W2 s2 σ H2 _ _ s5 R2 hf ⟨fun e W' σ' H' l' R' => ?_, fun e W' σ' H' l' R' => ?_, fun e W' σ' H' l' R' => ?_, fun v o e x W' σ' H' l' R' rr => ?_, fun _ _ e => nomatch e⟩
            · cases e
              exact ⟨W', s5, la.trans l', R', hk⟩
            · cases e
              obtain ⟨rfl, rfl⟩ := rt_inj (show rt Fl.nx s5 = _ from hk)
              exact eo.nx rfl W' σ' H' (la.trans l') R'
            · cases e
              exact ⟨W', s5, la.trans l', R', hk⟩
            · cases e
              obtain ⟨rfl, rfl⟩ := rt_inj (show rt (Fl.ret v o) s5 = _ from hk)
              exact eo.rt v o rfl x W' σ' H' (la.trans l') R' rr
          · exact Jb W0 H0 W2 s2 σ H2 _ _ s' R2 hf ⟨fun e => (nomatch e), fun e => (nomatch e), fun e => (nomatch e), fun _ _ e => (nomatch e), fun c fs e => (eo.le la).xx c fs e⟩
  | _ => exact ff h
mutual
theorem ss : ∀ st : XS, SS st
  | .nvr => fun _ _ _ => ⟨tNever, ps_never, fun _ _ _ _ _ _ _ _ _ _ e _ => (by cases e)⟩
  | .asg t e => ss_asg
  | .setI o i e => ss_setI
  | .setF o C f e => ss_setF
  | .aug i op e => ss_aug
  | .expr e => ss_expr
  | .ifs d a b => ss_ifs (sss a) (sss b)
  | .for_ t it body => ss_for (sss body)
  | .whl n d body => ss_whl (sss body)
  | .ret e => ss_ret
  | .retN => ss_retN
  | .brk => ss_brk
  | .cont => ss_cont
  | .pass => ss_pass
  | .raise _ _ _ => ss_raise
  | .try_ _ b _ => ss_try (sss b)
theorem sss : ∀ st : XSs, SSs st
  | .nil => sss_nil
  | .cons a r => sss_cons (ss a) (sss r)
end
end Lk

namespace Lk
open PySem L2 PySem.Spec PyProof.Rows
theorem FnKn.mono {G : Gv} {j k : Nat} {x : Str} {F : Fn} (h : FnKn G j x F) (l : j ≤ k) : FnKn G k x F := by
  obtain ⟨np, a, fd, ps, h1, h2, h3, h4, h5⟩ := h
  exact ⟨np, a, fd, ps, h1, h2, h3, h4, h5.mono l⟩
/-- the names that are cells -/
def cellsOf (sc : Scope) : List Str := (sc.names.filter fun y => decide (y.2 = .cell)).map (·.1)
def kxOf (N : List Str) (sc : Scope) (x : Str) : Kx := ⟨N, sc, cellsOf sc, some x⟩
def bodyF (np ns : Nat) (body : XSs) : Fn → Fn := fun F args mu => if args.length = np then fin (evSs body F ⟨entry np ns args, mu⟩) else none
theorem evF_eq {nm : String} {np ns n : Nat} {body : XSs} : evF (.mk nm np ns n body) = fixN (bodyF np ns body) n := rfl
theorem fix_len {np ns : Nat} {body : XSs} : ∀ {n : Nat} {args mu : List PV} {r}, fixN (bodyF np ns body) n args mu = some r → args.length = np
  | 0, _, _, _, h => by cases h
  | n + 1, args, mu, r, h => by
    have h : (if args.length = np then fin (evSs body (fixN (bodyF np ns body) n) ⟨entry np ns args, mu⟩) else none) = some r := h
    split at h
    · assumption
    · cases h
theorem rl_entry {K : PySem.W.Frag} {cl : String → Option Addr} {W : Wd} {H : Hp} {mu args : List PV} {vs : List V} {N : List Str} {np : Nat} (m : RM K cl W mu H) (r : RepL K cl W args vs) (hl : args.length = np) (hN : np ≤ N.length) :
    Rl K cl W H W ⟨entry np N.length args, mu⟩ (L2.start N vs) H := by
  have hvl := r.length
  have no : ∀ (i : Nat) p, (entry np N.length args)[i]? ≠ some (.own p) := fun i p h => by
    unfold entry at h
    by_cases hi : i < args.length
    · rw [List.getElem?_append_left (by simpa using hi), List.getElem?_map] at h
      cases e : args[i]? with
      | none => rw [e] at h; cases h
      | some q => rw [e] at h; cases h
    · rw [List.getElem?_append_right (by simpa using hi), List.getElem?_replicate] at h
      split at h <;> cases h
  refine ⟨m, .refl W H, ?_, fun i p h => ?_, fun i p h => absurd h (no i p), fun i j p q a h => absurd h (no i p)⟩
  · unfold entry L2.start
    simp only [List.length_append, List.length_map, List.length_replicate]
    omega
  · have h : (entry np N.length args)[i]? = some (.val p) := h
    unfold entry at h
    by_cases hi : i < args.length
    · rw [List.getElem?_append_left (by simpa using hi), List.getElem?_map] at h
      cases e : args[i]? with
      | none => rw [e] at h; cases h
      | some q =>
        rw [e] at h; cases h
        obtain ⟨v, ev, rv⟩ := r.get e
        refine ⟨v, ?_, rv⟩
        unfold L2.start
        rw [List.getElem?_append_left (by rw [List.length_map]; omega), List.getElem?_map, ev]
        rfl
    · rw [List.getElem?_append_right (by simpa using hi), List.getElem?_replicate] at h
      split at h <;> cases h
/-- A FUNCTION -/
theorem fn_ok {P : Program} {w : World} {K : PySem.W.Frag} {mg : Str → Option Value} {base : Heap} {cl : String → Option Addr} {x qual : Str} {params : Arguments} {body : List Stmt} {scope : Scope} {kws : List (Str × V)} {f : Addr} {fd : FuncData} {N ps : List Str} {k np : Nat} {bx : XSs}
    (D : FunD K x qual params body scope [] kws f fd) (S : FnScope N ps scope) (hnp : ps.length = np) (hblt : ∀ y ∈ bltNames, mg y = none) (hm : mg x = some (.ref f)) (hb : Binds K fd ps [])
    (hc : chkSs bx (kxOf N scope x) body = true) (hN : ∀ j, k ≤ j → NdSs ⟨P, w, K, mg, base, cl⟩ j bx) :
    ∀ n, FnOk P w K mg base (L2.CX P w) (k + n) f fd ps (spFn K cl np (fixN (bodyF np N.length bx) n)) := by
  have len : ∀ F vs H Q E, spFn K cl np F vs H Q E → vs.length = ps.length := fun F vs H Q E h => by rw [hnp]; exact h.1
  intro n
  induction n with
  | zero =>
    refine ⟨len _, fun A outer s H args us vs Q E hr e0 hbb r h => ?_⟩
    obtain ⟨_, W, as, mu, out, mu', _, _, e, _⟩ := h
    cases e
  | succ n ih =>
    refine FunD.ok D S (len _) fun cdv A outer s H vs Q E hr h => ?_
    obtain ⟨hvl, W, as, mu, out, mu', m, ra, e, hok, hx⟩ := h
    have hal := fix_len e
    have e : (if as.length = np then fin (evSs bx (fixN (bodyF np N.length bx) n) ⟨entry np N.length as, mu⟩) else none) = some (out, mu') := e
    rw [if_pos hal] at e
    have hnl : np ≤ N.length := by
      have := congrArg List.length S.pre
      rw [List.length_take] at this
      omega
    have g : Gs cl (cxOf (L2.CX P w) P w K mg base N qual scope f cdv A outer s H E) (kxOf N scope x) (k + n) (fun cls d _ H => E cls d H) (fixN (bodyF np N.length bx) n) := by
      refine ⟨⟨rfl, S.nd, rfl, S.kind, rfl, hr, takes_of rfl rfl rfl rfl, fun _ _ => rfl, hblt, fun y hy => ?_⟩, passes_of rfl, rfl, rfl⟩
      have ey : x = y := by
        have : some x = some y := hy
        exact Option.some.inj this
      subst ey
      exact ⟨np, f, fd, ps, fun args mu r h => fix_len h, hm, D.kp, hb, ih⟩
    obtain ⟨t, pt, J⟩ := sss bx g hc (hN _ (Nat.le_add_right _ _))
    refine ⟨t, pt, ?_⟩
    cases eo : evSs bx (fixN (bodyF np N.length bx) n) ⟨entry np N.length as, mu⟩ with
    | none => rw [eo] at e; cases e
    | some q =>
      obtain ⟨o, s'⟩ := q
      rw [eo] at e
      refine J W H W _ (L2.start N vs) H _ o s' (rl_entry m ra hal hnl) eo ⟨fun eq W' σ' H' l R' => ?_, fun eq W' σ' H' l R' => ?_, fun eq W' σ' H' l R' => ?_, fun v ow eq y W' σ' H' l R' rr => ?_, fun c fs eq cls d W' σ' H' l R' ex => ?_⟩
      · subst eq
        cases e
        exact hok _ rfl .non W' H' R'.si R'.rm (by unfold ResF; exact rep_non)
      · subst eq; cases e
      · subst eq; cases e
      · subst eq
        cases e
        refine hok _ rfl y W' H' R'.si R'.rm ?_
        unfold Res at rr
        unfold ResF
        split at rr
        · rename_i hbv
          try rw [hbv]
          obtain ⟨a, ev, fr⟩ := rr
          exact ⟨a, ev, fr.at_, fr.f, fr.i, fr.z⟩
        · rename_i hbv
          try rw [hbv]
          exact rr
      · subst eq
        cases e
        exact hx c fs rfl cls d W' H' R'.si R'.rm ex
/-- as others need it -/
theorem fn_kn {P : Program} {w : World} {K : PySem.W.Frag} {mg : Str → Option Value} {base : Heap} {cl : String → Option Addr} {x qual : Str} {params : Arguments} {body : List Stmt} {scope : Scope} {kws : List (Str × V)} {f : Addr} {fd : FuncData} {N ps : List Str} {k np n : Nat} {bx : XSs}
    (D : FunD K x qual params body scope [] kws f fd) (S : FnScope N ps scope) (hnp : ps.length = np) (hblt : ∀ y ∈ bltNames, mg y = none) (hm : mg x = some (.ref f)) (hb : Binds K fd ps [])
    (hc : chkSs bx (kxOf N scope x) body = true) (hN : ∀ j, k ≤ j → NdSs ⟨P, w, K, mg, base, cl⟩ j bx) (j : Nat) (hj : k + n ≤ j) : FnKn ⟨P, w, K, mg, base, cl⟩ j x (fixN (bodyF np N.length bx) n) :=
  ⟨np, f, fd, ps, fun _ _ _ h => fix_len h, hm, D.kp, hb, (fn_ok D S hnp hblt hm hb hc hN n).mono hj⟩
/-- A METHOD (no recursion): its name is nobody's -/
theorem fn_ok1 {P : Program} {w : World} {K : PySem.W.Frag} {mg : Str → Option Value} {base : Heap} {cl : String → Option Addr} {x qual : Str} {params : Arguments} {body : List Stmt} {scope : Scope} {kws : List (Str × V)} {f : Addr} {fd : FuncData} {N ps : List Str} {k np : Nat} {bx : XSs}
    (D : FunD K x qual params body scope [] kws f fd) (S : FnScope N ps scope) (hnp : ps.length = np) (hblt : ∀ y ∈ bltNames, mg y = none)
    (hc : chkSs bx ⟨N, scope, cellsOf scope, none⟩ body = true) (hN : NdSs ⟨P, w, K, mg, base, cl⟩ k bx) :
    FnOk P w K mg base (L2.CX P w) (k + 1) f fd ps (spFn K cl np (fixN (bodyF np N.length bx) 1)) := by
  have len : ∀ F vs H Q E, spFn K cl np F vs H Q E → vs.length = ps.length := fun F vs H Q E h => by rw [hnp]; exact h.1
  refine FunD.ok D S (len _) fun cdv A outer s H vs Q E hr h => ?_
  obtain ⟨hvl, W, as, mu, out, mu', m, ra, e, hok, hx⟩ := h
  have hal := fix_len e
  have e : (if as.length = np then fin (evSs bx (fixN (bodyF np N.length bx) 0) ⟨entry np N.length as, mu⟩) else none) = some (out, mu') := e
  rw [if_pos hal] at e
  have hnl : np ≤ N.length := by
    have := congrArg List.length S.pre
    rw [List.length_take] at this
    omega
  have g : Gs cl (cxOf (L2.CX P w) P w K mg base N qual scope f cdv A outer s H E) ⟨N, scope, cellsOf scope, none⟩ k (fun cls d _ H => E cls d H) (fixN (bodyF np N.length bx) 0) :=
    ⟨⟨rfl, S.nd, rfl, S.kind, rfl, hr, takes_of rfl rfl rfl rfl, fun _ _ => rfl, hblt, fun y hy => (by cases hy)⟩, passes_of rfl, rfl, rfl⟩
  obtain ⟨t, pt, J⟩ := sss bx g hc hN
  refine ⟨t, pt, ?_⟩
  cases eo : evSs bx (fixN (bodyF np N.length bx) 0) ⟨entry np N.length as, mu⟩ with
  | none => rw [eo] at e; cases e
  | some q =>
    obtain ⟨o, s'⟩ := q
    rw [eo] at e
    refine J W H W _ (L2.start N vs) H _ o s' (rl_entry m ra hal hnl) eo ⟨fun eq W' σ' H' l R' => ?_, fun eq W' σ' H' l R' => ?_, fun eq W' σ' H' l R' => ?_, fun v ow eq y W' σ' H' l R' rr => ?_, fun c fs eq cls d W' σ' H' l R' ex => ?_⟩
    · subst eq
      cases e
      exact hok _ rfl .non W' H' R'.si R'.rm (by unfold ResF; exact rep_non)
    · subst eq; cases e
    · subst eq; cases e
    · subst eq
      cases e
      refine hok _ rfl y W' H' R'.si R'.rm ?_
      unfold Res at rr
      unfold ResF
      split at rr
      · rename_i hbv
        try rw [hbv]
        obtain ⟨a, ev, fr⟩ := rr
        exact ⟨a, ev, fr.at_, fr.f, fr.i, fr.z⟩
      · rename_i hbv
        try rw [hbv]
        exact rr
    · subst eq
      cases e
      exact hx c fs rfl cls d W' H' R'.si R'.rm ex
/-! ### an exception's __init__ -/
def fOf (p : Stmt) : Option (Str × Pos × Str × Pos × Str × Pos × Pos) := match p with
  | .Assign [.Attribute (.Name s sp) f fp] (.Name v vp) pos => some (s, sp, f, fp, v, vp, pos)
  | _ => none
theorem fOf_eq {p : Stmt} {s : Str} {sp : Pos} {f : Str} {fp : Pos} {v : Str} {vp pos : Pos} (h : fOf p = some (s, sp, f, fp, v, vp, pos)) : p = .Assign [.Attribute (.Name s sp) f fp] (.Name v vp) pos := by
  unfold fOf at h
  split at h
  · cases h; rfl
  · cases h
/-- self.f = (the i-th name) -/
def iniS (c : Kx) (f : String) (i : Nat) (p : Stmt) : Bool := match fOf p with
  | some (s, _, g, _, v, _, _) => decide (g = (f : Str)) && (varB c 0 s && varB c i v)
  | none => false
theorem ini_ps {X : Cx} {c : Kx} (hN : X.N = c.N) (hsc : X.env.scope = c.sc) {f : String} {i : Nat} {p : Stmt} (h : iniS c f i p = true) : PS X p (tOst X.K (f : Str) (tVar 0) (tVar i)) := by
  unfold iniS at h
  cases hp : fOf p with
  | none => rw [hp] at h; cases h
  | some z =>
    obtain ⟨s, sp, g, fp, v, vp, pos⟩ := z
    rw [hp] at h
    simp only [Bool.and_eq_true, decide_eq_true_eq] at h
    obtain ⟨h1, h2, h3⟩ := h
    subst h1
    rw [fOf_eq hp]
    exact ps_ost (pe_varS hN hsc h2) (pe_varS hN hsc h3)
def iniB (ns : List String) (c : Kx) (body : List Stmt) : Bool := match ns, body with
  | [f], [p] => iniS c f 1 p
  | [f, g], [p, q] => iniS c f 1 p && iniS c g 2 q
  | _, _ => false
section
variable {P : Program} {w : World} {K : PySem.W.Frag} {mg : Str → Option Value} {base : Heap} {x qual : Str} {params : Arguments} {body : List Stmt} {scope : Scope} {kws : List (Str × V)} {fI C : Addr} {fd : FuncData} {N ps : List Str} {ns : List String}
theorem ini_ok (D : FunD K x qual params body scope [] kws fI fd) (S : FnScope N ps scope) (hps : ps.length = ns.length + 1) (hN : N.length = ns.length + 1) (O : OexC K C) (hno : ∀ f ∈ ns, PySem.W.findIn K (.ref C) (f : Str) = some none) (hc : iniB ns ⟨N, scope, cellsOf scope, none⟩ body = true) :
    FnOk P w K mg base (L2.CX P w) 1 fI fd ps (spIni K C ns) := by
  refine FunD.ok D S (fun vs H Q E h => ?_) fun cdv A outer s H vs Q E hr h => ?_
  · obtain ⟨a, us, rfl, hl, _⟩ := h
    rw [hps, List.length_cons, hl]
  · obtain ⟨a, us, rfl, hl, ha, fin⟩ := h
    unfold iniB at hc
    split at hc
    · rename_i f p
      obtain ⟨u, rfl⟩ : ∃ u, us = [u] := by
        match us, hl with
        | [u], _ => exact ⟨u, rfl⟩
      match N, hN with
      | [n0, n1], _ =>
        refine ⟨_, pss_one (ini_ps rfl rfl hc), ?_⟩
        exact ⟨u, rfl, .ref a, rfl, a, C, rfl, O, hno f (by simp), .inl ⟨ha, fun dx hn hd => fin dx hn hd⟩⟩
    · rename_i f g p q
      obtain ⟨h1, h2⟩ := and_t hc
      obtain ⟨u, z, rfl⟩ : ∃ u z, us = [u, z] := by
        match us, hl with
        | [u, z], _ => exact ⟨u, z, rfl⟩
      match N, hN with
      | [n0, n1, n2], _ =>
        refine ⟨_, pss_cons (ini_ps rfl rfl h1) (pss_one (ini_ps rfl rfl h2)), ?_⟩
        refine ⟨u, rfl, .ref a, rfl, a, C, rfl, O, hno f (by simp), .inl ⟨ha, fun dx hn hd => ?_⟩⟩
        refine ⟨z, rfl, .ref a, rfl, a, C, rfl, O, hno g (by simp), .inr ⟨dx, [((f : Str), u)], upd_same, (upd_ne hd).trans upd_same, by simp, ?_⟩⟩
        have e : upd (upd (upd H dx (exd dx [((f : Str), u)])) a (exo a C (some dx))) dx (exd dx (((g : Str), z) :: [((f : Str), u)])) = iniH a C dx [((g : Str), z), ((f : Str), u)] H := by
          funext b
          unfold iniH
          by_cases h1 : b = dx
          · subst h1; rw [upd_same, upd_ne hd, upd_same]
          · rw [upd_ne h1]
            by_cases h2 : b = a
            · subst h2; rw [upd_same, upd_same]
            · rw [upd_ne h2, upd_ne h1, upd_ne h2, upd_ne h1]
        show Q .non _
        rw [e]
        exact fin dx hn hd
    · cases hc
end
end Lk

namespace Lk
open PySem L2 PySem.Spec PyProof.Rows
theorem law_sp {K : PySem.W.Frag} {cl : String → Option Addr} {F : Fn} {H : Hp} {a : Addr} {ns : List Int} (hS : SqL K H a (ns.map V.int)) (h : ∃ b mu', F [.scr ns] [] = some (.ok (.bl true, b), mu')) :
    spFn K cl 1 F [.ref a] H (fun v _ => v = .bl true) (fun _ _ _ => False) := by
  obtain ⟨b, mu', e⟩ := h
  refine ⟨rfl, ⟨H, []⟩, [.scr ns], [], _, mu', ⟨fun _ _ h => h, fun k a h => (by simp at h), rfl, List.nodup_nil⟩, RepL.cons ?_ RepL.nil, e, fun r er v W' H' x m res => ?_, fun c fs er => (nomatch er)⟩
  · unfold Rep
    exact ⟨a, rfl, hS⟩
  · cases er
    unfold ResF at res
    have hb : (b && isCont (PV.bl true)) = false := by cases b <;> rfl
    simp only [hb] at res
    unfold Rep at res
    exact res
/-- what a def may let out, whatever the world -/
def CXA : CXT := fun outer H s E u s' => ∃ P w, L2.CX P w outer H s E u s'
theorem fn_cxa {P : Program} {w : World} {K : PySem.W.Frag} {mg : Str → Option Value} {base : Heap} {k : Nat} {f : Addr} {fd : FuncData} {ps : List Str} {sp : Sp} (F : FnOk P w K mg base (L2.CX P w) k f fd ps sp) : FnOk P w K mg base CXA k f fd ps sp :=
  ⟨F.len, fun A outer s H args us vs Q E hr he hb hv hs => codeAny_mono (F.run A outer s H args us vs Q E hr he hb hv hs) fun r s' h => by
    cases r with
    | ok fl => cases fl <;> exact h
    | error e => exact ⟨P, w, h⟩⟩
theorem law_cx : ∀ (H : Hp) (s : Shared) (e : Value) (s' : Shared), CXA [] H s (fun _ _ _ => False) e s' → False := by
  rintro H s e s' ⟨P, w, a, B, H', cls, d, _, _, _, _, _, _, _, h⟩
  exact h
end Lk

namespace Lk
open PySem L2 PySem.Spec PyProof.Rows
inductive Lf where
  | glb (x : String) (v : PV)
  | fld (C f : String)
  | isin (ds cs : List String)
  | call (f : XF)
  | make (C : String) (f : XF)
  | raise (C : String) (ns : List String)
  | hdl (es : List String) (h : String) (fs : List String)
mutual
def lfE : XE → List Lf → List Lf
  | .nvr, r => r
  | .var _, r => r
  | .cst _, r => r
  | .glb x v, r => .glb x v :: r
  | .bin _ a b, r => lfE a (lfE b r)
  | .neg a, r => lfE a r
  | .not a, r => lfE a r
  | .cmp _ a b, r => lfE a (lfE b r)
  | .cmp2 _ _ a b c, r => lfE a (lfE b (lfE c r))
  | .and a b, r => lfE a (lfE b r)
  | .or a b, r => lfE a (lfE b r)
  | .tand a b, r => lfE a (lfE b r)
  | .tor a b, r => lfE a (lfE b r)
  | .ite c a b, r => lfE c (lfE a (lfE b r))
  | .lst es, r => lfA es r
  | .tup es, r => lfA es r
  | .dic es, r => lfA es r
  | .dnew _, r => r
  | .nref e, r => lfE e r
  | .idx a i, r => lfE a (lfE i r)
  | .slc a l h, r => lfE a (lfE l (lfE h r))
  | .nop, r => r
  | .rev a, r => lfE a r
  | .call f es, r => .call f :: lfA es r
  | .self es, r => lfA es r
  | .prm _ es, r => lfA es r
  | .isin a ds cs, r => lfE a (.isin ds cs :: r)
  | .met _ o es, r => lfE o (lfA es r)
  | .mut _ o es, r => lfE o (lfA es r)
  | .comp _ _ it c e, r => lfI it (lfE c (lfE e r))
  | .dcomp _ _ it c k e, r => lfI it (lfE c (lfE k (lfE e r)))
  | .fld a C f, r => lfE a (.fld C f :: r)
  | .make C f es, r => .make C f :: lfA es r
def lfA : XEs → List Lf → List Lf
  | .nil, r => r
  | .cons e es, r => lfE e (lfA es r)
def lfI : XI → List Lf → List Lf
  | .val e, r => lfE e r
  | .rng1 a, r => lfE a r
  | .rng2 a b, r => lfE a (lfE b r)
  | .enum e, r => lfE e r
  | .zip a b, r => lfE a (lfE b r)
  | .items e, r => lfE e r
  | .values e, r => lfE e r
end
def lfH (es : List String) : XHs → List Lf → List Lf
  | .nil, r => r
  | .cons h _ _ px q, r => .hdl es h (fldsX px) :: lfH es q r
mutual
def lfS : XS → List Lf → List Lf
  | .nvr, r => r
  | .asg _ e, r => lfE e r
  | .setI o i e, r => lfE o (lfE i (lfE e r))
  | .setF o C f e, r => lfE o (.fld C f :: lfE e r)
  | .aug _ _ e, r => lfE e r
  | .expr e, r => lfE e r
  | .ifs d a b, r => lfE d (lfSs a (lfSs b r))
  | .for_ _ it b, r => lfI it (lfSs b r)
  | .whl _ d b, r => lfE d (lfSs b r)
  | .ret e, r => lfE e r
  | .retN, r => r
  | .brk, r => r
  | .cont, r => r
  | .pass, r => r
  | .raise c ns es, r => .raise c ns :: lfA es r
  | .try_ es b hs, r => lfSs b (lfH es hs r)
def lfSs : XSs → List Lf → List Lf
  | .nil, r => r
  | .cons s q, r => lfS s (lfSs q r)
end
def LfOk (G : Gv) (k : Nat) : Lf → Prop
  | .glb x v => ∃ u y, G.mg x = some u ∧ RelV y u ∧ ∀ W, Rep G.K G.cl W v y
  | .fld C f => ∃ c, G.cl C = some c ∧ Cls G.K c ∧ NoAttr G.K c (f : Str)
  | .isin ds cs => IsN G ds cs
  | .call f => FnKn G k f.name (evF f)
  | .make C f => InKn G k C (evF f)
  | .raise C ns => RsN G k C ns
  | .hdl es h fs => ∃ v, G.mg h = some v ∧ (∀ c ∈ es, ∃ C, G.cl c = some C ∧ PySem.W.exmOne G.K (.ref C) v = some (excIs h c)) ∧ ∀ f ∈ fs, ∃ C, G.cl h = some C ∧ XfC G.K C ∧ PySem.W.findIn G.K (.ref C) f = some none
def AllL (P : Lf → Prop) : List Lf → Prop
  | [] => True
  | l :: r => P l ∧ AllL P r
mutual
theorem nd_e {G : Gv} {k : Nat} : ∀ {e : XE} {r : List Lf}, AllL (LfOk G k) (lfE e r) → NdE G k e ∧ AllL (LfOk G k) r
  | .nvr, r, h => ⟨trivial, h⟩
  | .var _, r, h => ⟨trivial, h⟩
  | .cst _, r, h => ⟨trivial, h⟩
  | .glb x v, r, h => h
  | .bin _ a b, r, h => let ⟨h1, h⟩ := nd_e (e := a) h; let ⟨h2, h⟩ := nd_e (e := b) h; ⟨⟨h1, h2⟩, h⟩
  | .neg a, r, h => nd_e (e := a) h
  | .not a, r, h => nd_e (e := a) h
  | .cmp _ a b, r, h => let ⟨h1, h⟩ := nd_e (e := a) h; let ⟨h2, h⟩ := nd_e (e := b) h; ⟨⟨h1, h2⟩, h⟩
  | .cmp2 _ _ a b c, r, h => let ⟨h1, h⟩ := nd_e (e := a) h; let ⟨h2, h⟩ := nd_e (e := b) h; let ⟨h3, h⟩ := nd_e (e := c) h; ⟨⟨h1, h2, h3⟩, h⟩
  | .and a b, r, h => let ⟨h1, h⟩ := nd_e (e := a) h; let ⟨h2, h⟩ := nd_e (e := b) h; ⟨⟨h1, h2⟩, h⟩
  | .or a b, r, h => let ⟨h1, h⟩ := nd_e (e := a) h; let ⟨h2, h⟩ := nd_e (e := b) h; ⟨⟨h1, h2⟩, h⟩
  | .tand a b, r, h => let ⟨h1, h⟩ := nd_e (e := a) h; let ⟨h2, h⟩ := nd_e (e := b) h; ⟨⟨h1, h2⟩, h⟩
  | .tor a b, r, h => let ⟨h1, h⟩ := nd_e (e := a) h; let ⟨h2, h⟩ := nd_e (e := b) h; ⟨⟨h1, h2⟩, h⟩
  | .ite c a b, r, h => let ⟨h1, h⟩ := nd_e (e := c) h; let ⟨h2, h⟩ := nd_e (e := a) h; let ⟨h3, h⟩ := nd_e (e := b) h; ⟨⟨h1, h2, h3⟩, h⟩
  | .lst es, r, h => nd_a (es := es) h
  | .tup es, r, h => nd_a (es := es) h
  | .dic es, r, h => nd_a (es := es) h
  | .dnew _, r, h => ⟨trivial, h⟩
  | .nref e, r, h => nd_e (e := e) h
  | .idx a i, r, h => let ⟨h1, h⟩ := nd_e (e := a) h; let ⟨h2, h⟩ := nd_e (e := i) h; ⟨⟨h1, h2⟩, h⟩
  | .slc a l u, r, h => let ⟨h1, h⟩ := nd_e (e := a) h; let ⟨h2, h⟩ := nd_e (e := l) h; let ⟨h3, h⟩ := nd_e (e := u) h; ⟨⟨h1, h2, h3⟩, h⟩
  | .nop, r, h => ⟨trivial, h⟩
  | .rev a, r, h => nd_e (e := a) h
  | .call f es, r, h => let ⟨h2, h3⟩ := nd_a (es := es) h.2; ⟨⟨h.1, h2⟩, h3⟩
  | .self es, r, h => nd_a (es := es) h
  | .prm _ es, r, h => nd_a (es := es) h
  | .isin a ds cs, r, h => let ⟨h1, h⟩ := nd_e (e := a) h; ⟨⟨h1, h.1⟩, h.2⟩
  | .met _ o es, r, h => let ⟨h1, h⟩ := nd_e (e := o) h; let ⟨h2, h⟩ := nd_a (es := es) h; ⟨⟨h1, h2⟩, h⟩
  | .mut _ o es, r, h => let ⟨h1, h⟩ := nd_e (e := o) h; let ⟨h2, h⟩ := nd_a (es := es) h; ⟨⟨h1, h2⟩, h⟩
  | .comp _ _ it c e, r, h => let ⟨h1, h⟩ := nd_i (it := it) h; let ⟨h2, h⟩ := nd_e (e := c) h; let ⟨h3, h⟩ := nd_e (e := e) h; ⟨⟨h1, h2, h3⟩, h⟩
  | .dcomp _ _ it c k e, r, h => let ⟨h1, h⟩ := nd_i (it := it) h; let ⟨h2, h⟩ := nd_e (e := c) h; let ⟨h3, h⟩ := nd_e (e := k) h; let ⟨h4, h⟩ := nd_e (e := e) h; ⟨⟨h1, h2, h3, h4⟩, h⟩
  | .fld a C f, r, h => let ⟨h1, h⟩ := nd_e (e := a) h; ⟨⟨h.1, h1⟩, h.2⟩
  | .make C f es, r, h => let ⟨h2, h3⟩ := nd_a (es := es) h.2; ⟨⟨h.1, h2⟩, h3⟩
theorem nd_a {G : Gv} {k : Nat} : ∀ {es : XEs} {r : List Lf}, AllL (LfOk G k) (lfA es r) → NdA G k es ∧ AllL (LfOk G k) r
  | .nil, r, h => ⟨trivial, h⟩
  | .cons e es, r, h => let ⟨h1, h⟩ := nd_e (e := e) h; let ⟨h2, h⟩ := nd_a (es := es) h; ⟨⟨h1, h2⟩, h⟩
theorem nd_i {G : Gv} {k : Nat} : ∀ {it : XI} {r : List Lf}, AllL (LfOk G k) (lfI it r) → NdI G k it ∧ AllL (LfOk G k) r
  | .val e, r, h => nd_e (e := e) h
  | .rng1 a, r, h => nd_e (e := a) h
  | .rng2 a b, r, h => let ⟨h1, h⟩ := nd_e (e := a) h; let ⟨h2, h⟩ := nd_e (e := b) h; ⟨⟨h1, h2⟩, h⟩
  | .enum e, r, h => nd_e (e := e) h
  | .zip a b, r, h => let ⟨h1, h⟩ := nd_e (e := a) h; let ⟨h2, h⟩ := nd_e (e := b) h; ⟨⟨h1, h2⟩, h⟩
  | .items e, r, h => nd_e (e := e) h
  | .values e, r, h => nd_e (e := e) h
end
theorem nd_h {G : Gv} {k : Nat} {es : List String} : ∀ {hs : XHs} {r : List Lf}, AllL (LfOk G k) (lfH es hs r) → HsN G es hs ∧ AllL (LfOk G k) r
  | .nil, r, h => ⟨trivial, h⟩
  | .cons _ _ _ _ q, r, h => let ⟨h2, h3⟩ := nd_h (hs := q) h.2; ⟨⟨h.1, h2⟩, h3⟩
mutual
theorem nd_s {G : Gv} {k : Nat} : ∀ {st : XS} {r : List Lf}, AllL (LfOk G k) (lfS st r) → NdS G k st ∧ AllL (LfOk G k) r
  | .nvr, r, h => ⟨trivial, h⟩
  | .asg _ e, r, h => nd_e (e := e) h
  | .setI o i e, r, h => let ⟨h1, h⟩ := nd_e (e := o) h; let ⟨h2, h⟩ := nd_e (e := i) h; let ⟨h3, h⟩ := nd_e (e := e) h; ⟨⟨h3, h1, h2⟩, h⟩
  | .setF o C f e, r, h => let ⟨h1, h⟩ := nd_e (e := o) h; let ⟨h2, h3⟩ := nd_e (e := e) h.2; ⟨⟨h.1, h2, h1⟩, h3⟩
  | .aug _ _ e, r, h => nd_e (e := e) h
  | .expr e, r, h => nd_e (e := e) h
  | .ifs d a b, r, h => let ⟨h1, h⟩ := nd_e (e := d) h; let ⟨h2, h⟩ := nd_ss (st := a) h; let ⟨h3, h⟩ := nd_ss (st := b) h; ⟨⟨h1, h2, h3⟩, h⟩
  | .for_ _ it b, r, h => let ⟨h1, h⟩ := nd_i (it := it) h; let ⟨h2, h⟩ := nd_ss (st := b) h; ⟨⟨h1, h2⟩, h⟩
  | .whl _ d b, r, h => let ⟨h1, h⟩ := nd_e (e := d) h; let ⟨h2, h⟩ := nd_ss (st := b) h; ⟨⟨h1, h2⟩, h⟩
  | .ret e, r, h => nd_e (e := e) h
  | .retN, r, h => ⟨trivial, h⟩
  | .brk, r, h => ⟨trivial, h⟩
  | .cont, r, h => ⟨trivial, h⟩
  | .pass, r, h => ⟨trivial, h⟩
  | .raise c ns es, r, h => let ⟨h2, h3⟩ := nd_a (es := es) h.2; ⟨⟨h.1, h2⟩, h3⟩
  | .try_ es b hs, r, h => let ⟨h1, h⟩ := nd_ss (st := b) h; let ⟨h2, h3⟩ := nd_h h; ⟨⟨h1, h2⟩, h3⟩
theorem nd_ss {G : Gv} {k : Nat} : ∀ {st : XSs} {r : List Lf}, AllL (LfOk G k) (lfSs st r) → NdSs G k st ∧ AllL (LfOk G k) r
  | .nil, r, h => ⟨trivial, h⟩
  | .cons s q, r, h => let ⟨h1, h⟩ := nd_s (st := s) h; let ⟨h2, h⟩ := nd_ss (st := q) h; ⟨⟨h1, h2⟩, h⟩
end
/-! ### leaves that the written part tells -/
mutual
def glbB (K : PySem.W.Frag) : PV → Value → Bool
  | .non, .none => true
  | .bl b, .bool c => b == c
  | .int i, .int j _ => decide (i = j)
  | .str s, .str y _ => decide ((⟨s.toArray⟩ : Str) = y)
  | .ktp ps, .ref a => match K.lookup a with
    | some ⟨.type c, _, .seq its _, _⟩ => decide (c = "tuple") && (decide (its.size ≤ sizeLine) && glbBs K ps its.toList)
    | _ => false
  | _, _ => false
def glbBs (K : PySem.W.Frag) : List PV → List Value → Bool
  | [], [] => true
  | p :: ps, u :: us => glbB K p u && glbBs K ps us
  | _, _ => false
end
mutual
theorem glbB_ok {K : PySem.W.Frag} {cl : String → Option Addr} : ∀ {p : PV} {u : Value}, glbB K p u = true → ∃ y, RelV y u ∧ ∀ W, Rep K cl W p y
  | .non, u, h => by
    cases u with
    | none => exact ⟨.non, rfl, fun W => by unfold Rep; rfl⟩
    | _ => exact absurd h (by simp [glbB])
  | .bl b, u, h => by
    cases u with
    | bool c =>
      have e : b = c := eq_of_beq h
      subst e
      exact ⟨.bl b, rfl, fun W => by unfold Rep; rfl⟩
    | _ => exact absurd h (by simp [glbB])
  | .int i, u, h => by
    cases u with
    | int j t =>
      have e : i = j := of_decide_eq_true h
      subst e
      exact ⟨.int i, ⟨t, rfl⟩, fun W => by unfold Rep; rfl⟩
    | _ => exact absurd h (by simp [glbB])
  | .str s, u, h => by
    cases u with
    | str y t =>
      have e : (⟨s.toArray⟩ : Str) = y := of_decide_eq_true h
      subst e
      exact ⟨.str ⟨s.toArray⟩, ⟨t, rfl⟩, fun W => by unfold Rep; rfl⟩
    | _ => exact absurd h (by simp [glbB])
  | .ktp ps, u, h => by
    cases u with
    | ref a =>
      have h1 : (match K.lookup a with
        | some ⟨.type c, _, .seq its _, _⟩ => decide (c = "tuple") && (decide (its.size ≤ sizeLine) && glbBs K ps its.toList)
        | _ => false) = true := h
      split at h1
      · rename_i c od its n osl q
        obtain ⟨h2, h30⟩ := and_t h1
        obtain ⟨h3, h4⟩ := and_t h30
        obtain ⟨xs, rv, rp⟩ := glbBs_ok (K := K) (cl := cl) h4
        refine ⟨.ref a, rfl, fun W => ?_⟩
        unfold Rep
        exact ⟨a, xs, rfl, .inr ⟨_, its, n, q, congrArg Value.type (of_decide_eq_true h2), rfl, of_decide_eq_true h3, rv⟩, rp W⟩
      · cases h1
    | _ => exact absurd h (by simp [glbB])
  | .tup _, u, h => absurd h (by cases u <;> simp [glbB])
  | .lst _, u, h => absurd h (by cases u <;> simp [glbB])
  | .dic _ _, u, h => absurd h (by cases u <;> simp [glbB])
  | .ins _ _, u, h => absurd h (by cases u <;> simp [glbB])
  | .ref _, u, h => absurd h (by cases u <;> simp [glbB])
  | .scr _, u, h => absurd h (by cases u <;> simp [glbB])
theorem glbBs_ok {K : PySem.W.Frag} {cl : String → Option Addr} : ∀ {ps : List PV} {us : List Value}, glbBs K ps us = true → ∃ xs, Vals xs us ∧ ∀ W, RepL K cl W ps xs
  | [], [], h => ⟨[], .nil, fun W => RepL.nil⟩
  | p :: ps, u :: us, h => by
    obtain ⟨h1, h2⟩ := and_t (show (glbB K p u && glbBs K ps us) = true from h)
    obtain ⟨y, ry, py⟩ := glbB_ok (K := K) (cl := cl) h1
    obtain ⟨xs, rv, rp⟩ := glbBs_ok (K := K) (cl := cl) h2
    exact ⟨y :: xs, .cons ry rv, fun W => RepL.cons (py W) (rp W)⟩
  | [], _ :: _, h => by cases h
  | _ :: _, [], h => by cases h
end
/-- the classes by names -/
def clK (K : PySem.W.Frag) (cs : List String) : String → Option Addr := fun c => if c ∈ cs then some (He.ga K (c : Str)) else none
def clsV (K : PySem.W.Frag) (c : String) : Value := if c ∈ btN then .type c else .ref (He.ga K (c : Str))
def insB (K : PySem.W.Frag) (D : String) : Bool := (He.Fa.cls (D : Str)).ok K && (He.eqO (PySem.W.findIn K (.ref (He.ga K (D : Str))) "__class__") (some (some (.builtin "object.__class__"))) && (He.eqO (PySem.W.specialIn K (.builtin "object.__class__") "__get__") (some (some (.builtin "getset_descriptor.__get__"))) &&
  (decide (PySem.W.takesIn K (.builtin "object.__class__") = some true) && decide (PySem.W.mroIn K (He.ga K (D : Str)) (.type "object") = some true))))
def isinB (K : PySem.W.Frag) (all ds cs : List String) : Bool :=
  cs.all (fun c => decide (c ∈ btN) || (decide (c ∉ tyN) && (decide (c ∈ all) && ((He.Fa.glo (c : Str)).ok K && tyN.all fun T => decide (PySem.W.kitOne K (.type T) (.ref (He.ga K (c : Str))) = some false))))) &&
  ds.all fun D => decide (D ∈ all) && (insB K D && cs.all fun c => decide (c ∈ btN ∨ c ∈ all) && decide (PySem.W.kitOne K (.ref (He.ga K (D : Str))) (clsV K c) = some (D == c)))
/-- an exception class with an __init__ -/
def oexB (K : PySem.W.Frag) (C : Addr) : Bool := (match K.lookup C with
  | some ⟨.type "type", _, .cls cd, sl⟩ => (match cd.mro, sl.toList with
    | .ref C' :: bm, [_, _, _, _, some (.builtin n), _] => C' == C && (n == "ValueError.__new__" && (!cd.hasDel && (cd.hasDict && PySem.HandSPX.refsVE bm)))
    | _, _ => false)
  | _ => false) && (He.eqO (PySem.W.findIn K (.ref C) "__setattr__") (some (some (.builtin "object.__setattr__"))) && (decide (PySem.W.subIn K (.ref C) (.type "BaseException") = some true) && (decide (PySem.W.typeIn K (.ref C) = some (.type "type")) && PySem.W.keepIn K (.ref C))))
theorem oexB_ok {K : PySem.W.Frag} {C : Addr} (h : oexB K C = true) : OexC K C := by
  obtain ⟨h1, h20⟩ := and_t h
  obtain ⟨h2, h30⟩ := and_t h20
  obtain ⟨h3, h40⟩ := and_t h30
  obtain ⟨h4, h5⟩ := and_t h40
  refine ⟨?_, He.eqO_ok h2, of_decide_eq_true h3, of_decide_eq_true h4, h5⟩
  split at h1
  · rename_i dd cd sl ho
    split at h1
    · rename_i C' bm k0 k1 k2 k3 n k5 hm hs
      simp only [Bool.and_eq_true, beq_iff_eq, Bool.not_eq_true'] at h1
      obtain ⟨q1, q2, q3, q4, q5⟩ := h1
      obtain ⟨nm, bs, mro, ns, qn, hd, sn, sub, ab, col, del⟩ := cd
      dsimp only at hm q3 q4
      subst hm q1 q2 q3 q4
      have hsl : sl = #[k0, k1, k2, k3, some (.builtin "ValueError.__new__"), k5] := by
        obtain ⟨l⟩ := sl
        simp only at hs
        rw [hs]
      subst hsl
      exact ⟨nm, qn, ns, bs, bm, sn, sub, ab, col, dd, k0, k1, k2, k3, k5, ho, q5⟩
    · cases h1
  · cases h1
def ecB (K : PySem.W.Frag) (all : List String) (q : String × List String) : Bool := decide (q.1 ∈ all) && ((He.Fa.glo (q.1 : Str)).ok K && (oexB K (He.ga K (q.1 : Str)) && (He.eqO (PySem.W.findIn K (.ref (He.ga K (q.1 : Str))) "__init__") (some (some (.ref (He.ma K (He.ga K (q.1 : Str)) "__init__")))) &&
  (decide (PySem.W.typeIn K (.ref (He.ma K (He.ga K (q.1 : Str)) "__init__")) = some (.type "function")) && q.2.all fun f => He.eqO (PySem.W.findIn K (.ref (He.ga K (q.1 : Str))) (f : Str)) (some none)))))
def hdlB (K : PySem.W.Frag) (all es : List String) (h : String) (fs : List String) : Bool := (He.Fa.glo (h : Str)).ok K && ((es.all fun c => decide (c ∈ all) && decide (PySem.W.exmOne K (.ref (He.ga K (c : Str))) (.ref (He.ga K (h : Str))) = some (excIs h c))) &&
  fs.all fun f => decide (h ∈ all) && (xfB K (He.ga K (h : Str)) && He.eqO (PySem.W.findIn K (.ref (He.ga K (h : Str))) (f : Str)) (some none)))
def lfB (K : PySem.W.Frag) (all : List String) : Lf → Bool
  | .glb x v => match PySem.W.nsIn K mainGlobals (x : Str) with
    | some (some u) => glbB K v u
    | _ => false
  | .fld C f => decide (C ∈ all) && ((He.Fa.cls (C : Str)).ok K && (He.Fa.noat (C : Str) (f : Str)).ok K)
  | .isin ds cs => isinB K all ds cs
  | .call f => (He.Fa.glo (f.name : Str)).ok K
  | .make C _ => decide (C ∈ all) && ((He.Fa.glo (C : Str)).ok K && (He.Fa.mkr (C : Str)).ok K)
  | .raise C ns => !ns.isEmpty || (decide (C ∈ all) && ((He.Fa.glo (C : Str)).ok K && (He.Fa.exc (C : Str)).ok K))
  | .hdl es h fs => hdlB K all es h fs
section
variable {P : Program} {w : World} {K : PySem.W.Frag} {h : Heap} {mg : Str → Option Value} {base : Heap} {all : List String}
theorem clK_eq {c : String} (h : c ∈ all) : clK K all c = some (He.ga K (c : Str)) := if_pos h
theorem clsVal_eq {c : String} (h : c ∈ btN ∨ c ∈ all) : clsVal ⟨P, w, K, mg, base, clK K all⟩ c = clsV K c := by
  unfold clsVal clsV
  split
  · rfl
  · rename_i hn
    rw [show (⟨P, w, K, mg, base, clK K all⟩ : Gv).cl c = _ from clK_eq (h.resolve_left hn)]
def Lf.stat : Lf → Bool
  | .call _ => false
  | .make _ _ => false
  | .raise _ ns => ns.isEmpty
  | _ => true
theorem lf_ok (X : K.In h) (G : h.Ns mainGlobals mg) {k : Nat} {l : Lf} (hs : l.stat = true) (b : lfB K all l = true) : LfOk ⟨P, w, K, mg, base, clK K all⟩ k l := by
  cases l with
  | glb x v =>
    have b1 : (match PySem.W.nsIn K mainGlobals (x : Str) with
      | some (some u) => glbB K v u
      | _ => false) = true := b
    split at b1
    · rename_i u e
      obtain ⟨y, r1, r2⟩ := glbB_ok (cl := clK K all) b1
      exact ⟨u, y, PySem.W.mg_of X G e, r1, r2⟩
    · cases b1
  | fld C f =>
    obtain ⟨b1, b20⟩ := and_t b
    obtain ⟨b2, b3⟩ := and_t b20
    exact ⟨_, clK_eq (of_decide_eq_true b1), He.cls_ok b2, He.noat_ok b3⟩
  | isin ds cs =>
    obtain ⟨b1, b2⟩ := and_t b
    refine ⟨fun c hc => ?_, fun D hD => ?_⟩
    · have b3 := List.all_eq_true.mp b1 c hc
      rw [Bool.or_eq_true] at b3
      rcases b3 with b3 | b3
      · exact .inl (of_decide_eq_true b3)
      · obtain ⟨b4, b50⟩ := and_t b3
        obtain ⟨b5, b60⟩ := and_t b50
        obtain ⟨b6, b7⟩ := and_t b60
        exact .inr ⟨of_decide_eq_true b4, _, clK_eq (of_decide_eq_true b5), He.glo_ok X G b6, fun T hT => of_decide_eq_true (List.all_eq_true.mp b7 T hT)⟩
    · have b3 := List.all_eq_true.mp b2 D hD
      obtain ⟨b4, b50⟩ := and_t b3
      obtain ⟨bi, b5⟩ := and_t b50
      obtain ⟨i1, bi⟩ := and_t bi
      obtain ⟨i2, bi⟩ := and_t bi
      obtain ⟨i3, bi⟩ := and_t bi
      obtain ⟨i4, i5⟩ := and_t bi
      refine ⟨_, clK_eq (of_decide_eq_true b4), fun H a dx fs e => .base (.ins e (He.cls_ok i1) (He.eqO_ok i2) (He.eqO_ok i3) (of_decide_eq_true i4) (of_decide_eq_true i5)), fun c hc => ?_⟩
      obtain ⟨b6, b7⟩ := and_t (List.all_eq_true.mp b5 c hc)
      rw [clsVal_eq (of_decide_eq_true b6)]
      exact of_decide_eq_true b7
  | call f => cases hs
  | make C f => cases hs
  | raise C ns =>
    have e : ns = [] := by simpa using (show ns.isEmpty = true from hs)
    subst e
    have b1 : (decide (C ∈ all) && ((He.Fa.glo (C : Str)).ok K && (He.Fa.exc (C : Str)).ok K)) = true := b
    obtain ⟨b2, b30⟩ := and_t b1
    obtain ⟨b3, b4⟩ := and_t b30
    obtain ⟨e1, e2, e3, e4⟩ := He.exc_ok b4
    exact ⟨_, He.glo_ok X G b3, clK_eq (of_decide_eq_true b2), ⟨_, rfl⟩, .inl ⟨rfl, e1, e2, e3, e4⟩⟩
  | hdl es h' fs =>
    obtain ⟨b1, b20⟩ := and_t (show hdlB K all es h' fs = true from b)
    obtain ⟨b2, b3⟩ := and_t b20
    refine ⟨_, He.glo_ok X G b1, fun c hc => ?_, fun f hf => ?_⟩
    · obtain ⟨c1, c2⟩ := and_t (List.all_eq_true.mp b2 c hc)
      exact ⟨_, clK_eq (of_decide_eq_true c1), of_decide_eq_true c2⟩
    · obtain ⟨c1, c20⟩ := and_t (List.all_eq_true.mp b3 f hf)
      obtain ⟨c2, c3⟩ := and_t c20
      exact ⟨_, clK_eq (of_decide_eq_true c1), xfB_ok c2, He.eqO_ok c3⟩
/-- the calls alone are left -/
def AllC (G : Gv) (k : Nat) : List Lf → Prop
  | [] => True
  | .call f :: r => FnKn G k f.name (evF f) ∧ AllC G k r
  | .make C f :: r => InKn G k C (evF f) ∧ AllC G k r
  | .glb _ _ :: r => AllC G k r
  | .fld _ _ :: r => AllC G k r
  | .isin _ _ :: r => AllC G k r
  | .hdl _ _ _ :: r => AllC G k r
  | .raise _ [] :: r => AllC G k r
  | .raise C (f :: fs) :: r => RsN G k C (f :: fs) ∧ AllC G k r
theorem all_of (X : K.In h) (G : h.Ns mainGlobals mg) {k : Nat} : ∀ {ls : List Lf}, ls.all (lfB K all) = true → AllC ⟨P, w, K, mg, base, clK K all⟩ k ls → AllL (LfOk ⟨P, w, K, mg, base, clK K all⟩ k) ls
  | [], _, _ => trivial
  | l :: r, b, c => by
    obtain ⟨b1, b2⟩ := and_t (show (lfB K all l && r.all (lfB K all)) = true from b)
    cases l with
    | call f => exact ⟨c.1, all_of X G b2 c.2⟩
    | make C f => exact ⟨c.1, all_of X G b2 c.2⟩
    | glb x v => exact ⟨lf_ok X G rfl b1, all_of X G b2 c⟩
    | fld C f => exact ⟨lf_ok X G rfl b1, all_of X G b2 c⟩
    | isin ds cs => exact ⟨lf_ok X G rfl b1, all_of X G b2 c⟩
    | hdl es h fs => exact ⟨lf_ok X G rfl b1, all_of X G b2 c⟩
    | raise C ns =>
      cases ns with
      | nil => exact ⟨lf_ok X G rfl b1, all_of X G b2 c⟩
      | cons f fs => exact ⟨c.1, all_of X G b2 c.2⟩
theorem nd_of (X : K.In h) (G : h.Ns mainGlobals mg) {k : Nat} {b : XSs} (c1 : (lfSs b []).all (lfB K all) = true) (c2 : AllC ⟨P, w, K, mg, base, clK K all⟩ k (lfSs b [])) : NdSs ⟨P, w, K, mg, base, clK K all⟩ k b := (nd_ss (all_of X G c1 c2)).1
end
def bodyOf : XF → XSs
  | .mk _ _ _ _ b => b
/-! ### the head's look -/
def freeB (K : PySem.W.Frag) : Bool := bltNames.all fun x => (He.Fa.free x).ok K
def icB (K : PySem.W.Frag) (C : String) : Bool := (He.Fa.glo (C : Str)).ok K && (He.Fa.mkr (C : Str)).ok K
def okX (all ic : List String) (ec : List (String × List String)) (ts : List XF) (K : PySem.W.Frag) : Bool := freeB K && (ic.all (icB K) && (ec.all (ecB K all) && ts.all fun f => (lfSs (bodyOf f) []).all (lfB K all)))
def obsX (all ic : List String) (ec : List (String × List String)) (ts : List XF) (fn : List He.DefD) (K : PySem.W.Frag) : He.AlD := (okX all ic ec ts K && (fn.all fun d => d.ok K && (d.at_.2.isSome || (He.Fa.glo d.at_.1).ok K)), fn.map fun d => He.fnW K d.at_)
def obsXG (n : Nat) (all ic : List String) (ec : List (String × List String)) (ts : List XF) (fn : List He.DefD) (g : Addr → Option Obj) : He.AlD := obsX all ic ec ts fn (He.frG g (He.asD g n))
def hookX (n : Nat) (all ic : List String) (ec : List (String × List String)) (ts : List XF) (fn : List He.DefD) : PySem.W.Hook where
  α := He.AlD
  obs := fun s => obsXG n all ic ec ts fn s.heap.get?
  val := fun _ => He.valD fn
  says := fun _ h => ∃ K : PySem.W.Frag, K.In h ∧ obsX all ic ec ts fn K = He.valD fn
  of := fun _ _ e => ⟨_, He.frG_in, e⟩
  keeps := fun _ _ _ ⟨K, hK, c⟩ k => ⟨K, PySem.W.Frag.In.keeps hK k, c⟩
theorem obsXG_eq {n : Nat} {all ic : List String} {ec : List (String × List String)} {ts : List XF} {fn : List He.DefD} {g : Addr → Option Obj} {s : Shared} (h : ∀ a, g a = s.heap.get? a) : obsXG n all ic ec ts fn g = (hookX n all ic ec ts fn).obs s := by
  have e : g = s.heap.get? := funext h
  rw [e] <;> rfl
section
variable {all ic : List String} {ec : List (String × List String)} {ts : List XF} {fn : List He.DefD} {K : PySem.W.Frag} {h : Heap} {mg : Str → Option Value}
theorem SaysX.bl (c : obsX all ic ec ts fn K = He.valD fn) : freeB K = true ∧ (∀ C ∈ ic, icB K C = true) ∧ (∀ q ∈ ec, ecB K all q = true) ∧ (∀ f ∈ ts, (lfSs (bodyOf f) []).all (lfB K all) = true) ∧ ∀ d ∈ fn, d.ok K = true ∧ (d.at_.2.isSome || (He.Fa.glo d.at_.1).ok K) = true := by
  obtain ⟨c1, c2⟩ := and_t (show (okX all ic ec ts K && fn.all fun d => d.ok K && (d.at_.2.isSome || (He.Fa.glo d.at_.1).ok K)) = true from congrArg (fun z : He.AlD => z.1) c)
  obtain ⟨c3, c40⟩ := and_t c1
  obtain ⟨c4i, c50⟩ := and_t c40
  obtain ⟨c4e, c4⟩ := and_t c50
  exact ⟨c3, fun C hC => List.all_eq_true.mp c4i C hC, fun q hq => List.all_eq_true.mp c4e q hq, fun f hf => List.all_eq_true.mp c4 f hf, fun d hd => and_t (List.all_eq_true.mp c2 d hd)⟩
theorem SaysX.free (c : obsX all ic ec ts fn K = He.valD fn) (X : K.In h) (G : h.Ns mainGlobals mg) : ∀ x ∈ bltNames, mg x = none := fun x hx => He.free_ok X G (List.all_eq_true.mp (SaysX.bl c).1 x hx)
theorem SaysX.def_ (c : obsX all ic ec ts fn K = He.valD fn) (i : Nat) {d : He.DefD} (h : fn[i]? = some d) : ∃ fd, FunD K d.name d.qual d.params d.body d.scope (d.dvs K) (d.kws K) (He.fAd K d.at_) fd := by
  have e : fn.map (fun d => He.fnW K d.at_) = fn.map He.DefD.val := congrArg (fun z : He.AlD => z.2) c
  have e2 : (fn.map fun d => He.fnW K d.at_)[i]? = (fn.map He.DefD.val)[i]? := by rw [e]
  rw [List.getElem?_map, List.getElem?_map, h] at e2
  exact He.DefD.funD (Option.some.inj e2) ((SaysX.bl c).2.2.2.2 d (List.mem_of_getElem? h)).1
theorem SaysX.glo (c : obsX all ic ec ts fn K = He.valD fn) (X : K.In h) (G : h.Ns mainGlobals mg) (i : Nat) {d : He.DefD} (e : fn[i]? = some d) (hn : d.at_.2 = none) : mg d.at_.1 = some (.ref (He.fAd K d.at_)) := by
  have q := ((SaysX.bl c).2.2.2.2 d (List.mem_of_getElem? e)).2
  rw [hn] at q
  have q2 := He.glo_ok X G (show (He.Fa.glo d.at_.1).ok K = true from q)
  unfold He.fAd
  rw [hn]
  exact q2
theorem SaysX.inKn {P : Program} {w : World} {base : Heap} {C : String} {fd : FuncData} {ps : List Str} {k j np ns n : Nat} {nm : String} {b : XSs} (c : obsX all ic ec ts fn K = He.valD fn) (X : K.In h) (G : h.Ns mainGlobals mg) (hC : C ∈ ic) (hA : C ∈ all) (hb : Binds K fd ps [])
    (F : FnOk P w K mg base (L2.CX P w) k (He.fAd K ((C : Str), some "__init__")) fd ps (spFn K (clK K all) np (evF (.mk nm np ns n b)))) (hk : k + 1 ≤ j) : InKn ⟨P, w, K, mg, base, clK K all⟩ j C (evF (.mk nm np ns n b)) := by
  obtain ⟨b1, b2⟩ := and_t ((SaysX.bl c).2.1 C hC)
  exact ⟨np, _, _, fd, ps, k, hk, fun _ _ _ e => fix_len e, He.glo_ok X G b1, clK_eq hA, He.mkr_ok b2, hb, F⟩
theorem SaysX.rsN {P : Program} {w : World} {base : Heap} {C : String} {ns : List String} {fd : FuncData} {ps N : List Str} {j : Nat} {x qual : Str} {params : Arguments} {body : List Stmt} {scope : Scope} {kws : List (Str × V)} (c : obsX all ic ec ts fn K = He.valD fn) (X : K.In h) (G : h.Ns mainGlobals mg) (hC : (C, ns) ∈ ec) (hb : Binds K fd ps [])
    (D : FunD K x qual params body scope [] kws (He.fAd K ((C : Str), some "__init__")) fd) (S : FnScope N ps scope) (hps : ps.length = ns.length + 1) (hN : N.length = ns.length + 1) (hn : ns ≠ []) (hl : ns.length ≤ 20) (hc : iniB ns ⟨N, scope, cellsOf scope, none⟩ body = true) (hj : 2 ≤ j) : RsN ⟨P, w, K, mg, base, clK K all⟩ j C ns := by
  have b := (SaysX.bl c).2.2.1 (C, ns) hC
  obtain ⟨b1, b⟩ := and_t b
  obtain ⟨b2, b⟩ := and_t b
  obtain ⟨b3, b⟩ := and_t b
  obtain ⟨b4, b⟩ := and_t b
  obtain ⟨b5, b6⟩ := and_t b
  have O := oexB_ok b3
  exact ⟨_, He.glo_ok X G b2, clK_eq (of_decide_eq_true b1), ⟨_, rfl⟩, .inr ⟨hn, hl, _, fd, ps, 1, hj, O, He.eqO_ok b4, of_decide_eq_true b5, hb, ini_ok D S hps hN O (fun f hf => He.eqO_ok (List.all_eq_true.mp b6 f hf)) hc⟩⟩
end
end Lk

namespace Lk
open PySem L2
def x__law_deck_e0 : XE := (.prm .int (.cons (.var 1) .nil))
def x__law_deck : XF := .mk "_law_deck" 1 2 1
    (.cons (.ret (.nref (.lst (.cons (.comp [1] (.name 1) (.val (.slc (.var 0) .nop (.cst (.int 63)))) (.cst (.bl true)) x__law_deck_e0) (.cons (.cst (.int 0)) (.cons (.cst (.int 0)) (.cons (.cst (.int 0)) .nil)))))))
    .nil)
def x__law_pick : XF := .mk "_law_pick" 2 6 1
    (.cons (.setI (.var 0) (.cst (.int 3)) (.bin .add (.idx (.var 0) (.cst (.int 3))) (.cst (.int 1))))
    (.cons (.ifs (.cmp .gt (.idx (.var 0) (.cst (.int 2))) (.cst (.int 0))) (.cons (.asg (.name 5) (.bin .mod (.prm .int (.cons (.idx (.var 0) (.cst (.int 2))) .nil)) (.var 1)))
    (.cons (.setI (.var 0) (.cst (.int 2)) (.bin .fdiv (.prm .int (.cons (.idx (.var 0) (.cst (.int 2))) .nil)) (.var 1)))
    (.cons (.ret (.var 5))
    .nil))) .nil)
    (.cons (.asg (.name 2) (.idx (.var 0) (.cst (.int 0))))
    (.cons (.asg (.name 3) (.cst (.int 0)))
    (.cons (.ifs (.cmp .gt (.prm .len (.cons (.var 2) .nil)) (.cst (.int 0))) (.cons (.asg (.name 3) (.idx (.var 2) (.bin .mod (.prm .int (.cons (.idx (.var 0) (.cst (.int 1))) .nil)) (.prm .len (.cons (.var 2) .nil)))))
    .nil) .nil)
    (.cons (.setI (.var 0) (.cst (.int 1)) (.bin .add (.idx (.var 0) (.cst (.int 1))) (.cst (.int 1))))
    (.cons (.ifs (.tand (.cmp .ge (.var 3) (.bin .pow (.cst (.int 10)) (.cst (.int 18)))) (.cmp .le (.idx (.var 0) (.cst (.int 1))) (.prm .len (.cons (.var 2) .nil)))) (.cons (.setI (.var 0) (.cst (.int 2)) (.bin .fdiv (.prm .int (.cons (.var 3) .nil)) (.var 1)))
    (.cons (.ret (.bin .mod (.prm .int (.cons (.var 3) .nil)) (.var 1)))
    .nil)) .nil)
    (.cons (.asg (.name 4) (.bin .mod (.bin .mul (.prm .int (.cons (.bin .add (.bin .add (.var 3) (.bin .mul (.cst (.int 7919)) (.idx (.var 0) (.cst (.int 3))))) (.cst (.int 1))) .nil)) (.cst (.int 48271))) (.cst (.int 2147483647))))
    (.cons (.asg (.name 4) (.bin .mod (.bin .mul (.var 4) (.bin .add (.bin .fdiv (.var 4) (.cst (.int 1009))) (.cst (.int 69621)))) (.cst (.int 2147483647))))
    (.cons (.asg (.name 4) (.bin .mod (.bin .mul (.var 4) (.bin .add (.bin .fdiv (.var 4) (.cst (.int 2003))) (.cst (.int 40692)))) (.cst (.int 2147483399))))
    (.cons (.ret (.bin .mod (.var 4) (.var 1)))
    .nil)))))))))))
def x__law_row_e0 : XE := (.idx (.cst (.str [48, 49])) (.bin .band (.bin .shr (.var 0) (.bin .sub (.bin .sub (.var 1) (.cst (.int 1))) (.var 2))) (.cst (.int 1))))
def x__law_row : XF := .mk "_law_row" 2 3 1
    (.cons (.ret (.met .join (.cst (.str [])) (.cons (.comp [2] (.name 2) (.rng1 (.var 1)) (.cst (.bl true)) x__law_row_e0) .nil)))
    .nil)
def x__law_rows_e0 : XE := (.call x__law_row (.cons (.var 4) (.cons (.var 1) .nil)))
def x__law_rows : XF := .mk "_law_rows" 1 5 1
    (.cons (.asg (.name 1) (.bin .add (.cst (.int 1)) (.call x__law_pick (.cons (.var 0) (.cons (.cst (.int 4)) .nil)))))
    (.cons (.asg (.name 2) (.bin .shl (.cst (.int 1)) (.var 1)))
    (.cons (.asg (.name 3) (.bin .add (.cst (.int 1)) (.call x__law_pick (.cons (.var 0) (.cons (.bin .sub (.bin .shl (.cst (.int 1)) (.var 2)) (.cst (.int 1))) .nil)))))
    (.cons (.ret (.comp [4] (.name 4) (.rng1 (.var 2)) (.cmp .eq (.bin .band (.bin .shr (.var 3) (.var 4)) (.cst (.int 1))) (.cst (.int 1))) x__law_rows_e0))
    .nil))))
def x_is_row_e0 : XE := (.cmp .in_ (.var 1) (.glb "SIGNS" (.ktp [(.str [48]), (.str [49])])))
def x_is_row : XF := .mk "is_row" 1 2 1
    (.cons (.ret (.and (.isin (.var 0) ["Lot"] ["str"]) (.prm .all (.cons (.comp [1] (.name 1) (.val (.var 0)) (.cst (.bl true)) x_is_row_e0) .nil))))
    .nil)
def x_Lot_init_b0 : XSs :=
    (.cons (.ifs (.tor (.not (.call x_is_row (.cons (.var 3) .nil))) (.tor (.not (.cmp2 .le .le (.cst (.int 1)) (.prm .len (.cons (.var 3) .nil)) (.glb "MOST_PLACES" (.int 10)))) (.tor (.cmp .ne (.prm .len (.cons (.var 3) .nil)) (.prm .len (.cons (.idx (.var 1) (.cst (.int 0))) .nil))) (.cmp .in_ (.var 3) (.slc (.var 1) .nop (.var 2)))))) (.cons (.raise "BadLot" ["index"] (.cons (.var 2) .nil))
    .nil) .nil)
    .nil)
def x_Lot_init : XF := .mk "__init__" 2 4 1
    (.cons (.ifs (.tor (.not (.isin (.var 1) ["Lot"] ["list", "tuple"])) (.not (.cmp2 .le .le (.cst (.int 1)) (.prm .len (.cons (.var 1) .nil)) (.glb "MOST_ROWS" (.int 64))))) (.cons (.raise "BadLot" ["index"] (.cons (.neg (.cst (.int 1))) .nil))
    .nil) .nil)
    (.cons (.for_ (.tup (.cons (.name 2) (.cons (.name 3) .nil))) (.enum (.var 1)) x_Lot_init_b0)
    (.cons (.setF (.var 0) "Lot" "rows" (.prm .tuple (.cons (.prm .sorted (.cons (.var 1) .nil)) .nil)))
    (.cons (.setF (.var 0) "Lot" "places" (.prm .len (.cons (.idx (.var 1) (.cst (.int 0))) .nil)))
    (.cons (.setF (.var 0) "Lot" "known" (.dnew false))
    .nil)))))
def x__law_strings_e0 : XE := (.bin .add (.var 4) (.var 5))
def x__law_strings_b1 : XSs :=
    (.cons (.expr (.mut .extend (.var 3) (.cons (.comp [5] (.name 5) (.val (.cst (.str [48, 49, 46]))) (.cst (.bl true)) x__law_strings_e0) .nil)))
    .nil)
def x__law_strings_b0 : XSs :=
    (.cons (.asg (.name 3) (.lst .nil))
    (.cons (.for_ (.name 4) (.val (.var 1)) x__law_strings_b1)
    (.cons (.asg (.name 1) (.var 3))
    .nil)))
def x__law_strings : XF := .mk "_law_strings" 1 6 1
    (.cons (.asg (.name 1) (.lst (.cons (.cst (.str [])) .nil)))
    (.cons (.for_ (.name 2) (.rng1 (.var 0)) x__law_strings_b0)
    (.cons (.ret (.var 1))
    .nil)))
def x__law_fit_e0 : XE := (.cmp .in_ (.idx (.var 1) (.var 4)) (.tup (.cons (.cst (.str [46])) (.cons (.idx (.var 3) (.var 4)) .nil))))
def x__law_fit_b0 : XSs :=
    (.cons (.ifs (.prm .all (.cons (.comp [4] (.name 4) (.rng1 (.prm .len (.cons (.var 3) .nil))) (.cst (.bl true)) x__law_fit_e0) .nil)) (.cons (.expr (.mut .append (.var 2) (.cons (.var 3) .nil)))
    .nil) .nil)
    .nil)
def x__law_fit : XF := .mk "_law_fit" 2 5 1
    (.cons (.asg (.name 2) (.lst .nil))
    (.cons (.for_ (.name 3) (.val (.var 0)) x__law_fit_b0)
    (.cons (.ret (.var 2))
    .nil)))
def x_is_marked_e0 : XE := (.or (.cmp .in_ (.var 2) (.glb "SIGNS" (.ktp [(.str [48]), (.str [49])]))) (.cmp .eq (.var 2) (.glb "DOT" (.str [46]))))
def x_is_marked : XF := .mk "is_marked" 2 3 1
    (.cons (.ret (.and (.isin (.var 0) ["Lot"] ["str"]) (.and (.cmp .eq (.prm .len (.cons (.var 0) .nil)) (.var 1)) (.prm .all (.cons (.comp [2] (.name 2) (.val (.var 0)) (.cst (.bl true)) x_is_marked_e0) .nil)))))
    .nil)
def x_fits_e0 : XE := (.or (.cmp .eq (.var 3) (.glb "DOT" (.str [46]))) (.cmp .eq (.var 3) (.var 2)))
def x_fits : XF := .mk "fits" 2 4 1
    (.cons (.ret (.prm .all (.cons (.comp [2, 3] (.tup (.cons (.name 2) (.cons (.name 3) .nil))) (.zip (.var 0) (.var 1)) (.cst (.bl true)) x_fits_e0) .nil)))
    .nil)
def x_is_standing_e0 : XE := (.call x_fits (.cons (.var 2) (.cons (.var 1) .nil)))
def x_is_standing : XF := .mk "is_standing" 2 3 1
    (.cons (.ret (.and (.call x_is_marked (.cons (.var 1) (.cons (.fld (.var 0) "Lot" "places") .nil))) (.prm .any (.cons (.comp [2] (.name 2) (.val (.fld (.var 0) "Lot" "rows")) (.cst (.bl true)) x_is_standing_e0) .nil))))
    .nil)
def x_check_standing : XF := .mk "check_standing" 2 2 1
    (.cons (.ifs (.not (.call x_is_standing (.cons (.var 0) (.cons (.var 1) .nil)))) (.cons (.raise "BadStanding" [] .nil)
    .nil) .nil)
    (.cons (.ret (.var 1))
    .nil))
def x_is_integer : XF := .mk "is_integer" 1 1 1
    (.cons (.ret (.and (.isin (.var 0) ["Lot"] ["int"]) (.not (.isin (.var 0) ["Lot"] ["bool"]))))
    .nil)
def x_is_place : XF := .mk "is_place" 2 2 1
    (.cons (.ret (.and (.call x_is_integer (.cons (.var 1) .nil)) (.cmp2 .le .lt (.cst (.int 0)) (.var 1) (.fld (.var 0) "Lot" "places"))))
    .nil)
def x_is_left : XF := .mk "is_left" 3 3 1
    (.cons (.ret (.and (.call x_is_place (.cons (.var 0) (.cons (.var 2) .nil))) (.cmp .eq (.idx (.var 1) (.var 2)) (.glb "DOT" (.str [46])))))
    .nil)
def x_is_sign : XF := .mk "is_sign" 1 1 1
    (.cons (.ret (.and (.isin (.var 0) ["Lot"] ["str"]) (.cmp .in_ (.var 0) (.glb "SIGNS" (.ktp [(.str [48]), (.str [49])])))))
    .nil)
def x_with_sign : XF := .mk "with_sign" 3 3 1
    (.cons (.ret (.bin .add (.bin .add (.slc (.var 0) .nop (.var 1)) (.var 2)) (.slc (.var 0) (.bin .add (.var 1) (.cst (.int 1))) .nop)))
    .nil)
def x_told : XF := .mk "told" 4 5 1
    (.cons (.expr (.call x_check_standing (.cons (.var 0) (.cons (.var 1) .nil))))
    (.cons (.ifs (.not (.call x_is_left (.cons (.var 0) (.cons (.var 1) (.cons (.var 2) .nil))))) (.cons (.raise "BadPlace" ["place"] (.cons (.var 2) .nil))
    .nil) .nil)
    (.cons (.ifs (.not (.call x_is_sign (.cons (.var 3) .nil))) (.cons (.raise "BadSign" ["sign"] (.cons (.var 3) .nil))
    .nil) .nil)
    (.cons (.asg (.name 4) (.call x_with_sign (.cons (.var 1) (.cons (.var 2) (.cons (.var 3) .nil)))))
    (.cons (.ifs (.not (.call x_is_standing (.cons (.var 0) (.cons (.var 4) .nil)))) (.cons (.raise "NoRow" [] .nil)
    .nil) .nil)
    (.cons (.ret (.var 4))
    .nil))))))
def x__law_answer_b0 : XSs :=
    (.cons (.asg (.name 4) (.tup (.cons (.cst (.str [116, 111, 108, 100])) (.cons (.call x_told (.cons (.var 0) (.cons (.var 1) (.cons (.var 2) (.cons (.var 3) .nil))))) .nil))))
    .nil)
def x__law_answer : XF := .mk "_law_answer" 4 6 1
    (.cons (.asg (.name 4) (.tup (.cons (.cst (.str [110, 111, 110, 101])) (.cons (.cst (.int 0)) .nil))))
    (.cons (.try_ ["SlipError", "BadLot", "BadStanding", "BadPlace", "BadSign", "NoRow"] x__law_answer_b0 (.cons "BadPlace" (some 5) 4 (.pair (.cst (.str [112, 108, 97, 99, 101])) (.fld "place")) (.cons "NoRow" none 4 (.pair (.cst (.str [114, 111, 119])) (.cst (.int 0))) .nil)))
    (.cons (.ret (.var 4))
    .nil)))
def x__law_due : XF := .mk "_law_due" 4 5 1
    (.cons (.ifs (.tor (.cmp .lt (.var 2) (.cst (.int 0))) (.tor (.cmp .ge (.var 2) (.prm .len (.cons (.var 1) .nil))) (.cmp .ne (.idx (.var 1) (.var 2)) (.cst (.str [46]))))) (.cons (.ret (.tup (.cons (.cst (.str [112, 108, 97, 99, 101])) (.cons (.var 2) .nil))))
    .nil) .nil)
    (.cons (.asg (.name 4) (.bin .add (.bin .add (.slc (.var 1) .nop (.var 2)) (.var 3)) (.slc (.var 1) (.bin .add (.var 2) (.cst (.int 1))) .nop)))
    (.cons (.ifs (.cmp .eq (.prm .len (.cons (.call x__law_fit (.cons (.var 0) (.cons (.var 4) .nil))) .nil)) (.cst (.int 0))) (.cons (.ret (.tup (.cons (.cst (.str [114, 111, 119])) (.cons (.cst (.int 0)) .nil))))
    .nil) .nil)
    (.cons (.ret (.tup (.cons (.cst (.str [116, 111, 108, 100])) (.cons (.var 4) .nil))))
    .nil))))
def x_rows_at : XF := .mk "rows_at" 2 3 1
    (.cons (.ret (.prm .tuple (.cons (.comp [2] (.name 2) (.val (.fld (.var 0) "Lot" "rows")) (.call x_fits (.cons (.var 2) (.cons (.var 1) .nil))) (.var 2)) .nil)))
    .nil)
def x_fitting : XF := .mk "fitting" 2 2 1
    (.cons (.ret (.prm .list (.cons (.call x_rows_at (.cons (.var 0) (.cons (.call x_check_standing (.cons (.var 0) (.cons (.var 1) .nil))) .nil))) .nil)))
    .nil)
def x__law_is_parted_e0 : XE := (.idx (.var 8) (.var 3))
def x__law_is_parted_b0 : XSs :=
    (.cons (.ifs (.cmp .in_ (.var 6) (.comp [8] (.name 8) (.val (.var 4)) (.cst (.bl true)) x__law_is_parted_e0)) (.cons (.asg (.name 7) (.call x_fitting (.cons (.var 0) (.cons (.call x_told (.cons (.var 0) (.cons (.var 2) (.cons (.var 3) (.cons (.var 6) .nil))))) .nil))))
    (.cons (.ifs (.cmp .gt (.prm .len (.cons (.comp [8] (.name 8) (.val (.var 7)) (.cmp .ne (.idx (.var 8) (.var 3)) (.var 6)) (.var 8)) .nil)) (.cst (.int 0))) (.cons (.ret (.cst (.bl false)))
    .nil) .nil)
    (.cons (.expr (.mut .extend (.var 5) (.cons (.var 7) .nil)))
    .nil))) .nil)
    .nil)
def x__law_is_parted : XF := .mk "_law_is_parted" 4 9 1
    (.cons (.asg (.name 4) (.call x__law_fit (.cons (.var 1) (.cons (.var 2) .nil))))
    (.cons (.asg (.name 5) (.lst .nil))
    (.cons (.for_ (.name 6) (.val (.lst (.cons (.cst (.str [48])) (.cons (.cst (.str [49])) .nil)))) x__law_is_parted_b0)
    (.cons (.ret (.cmp .eq (.prm .sorted (.cons (.var 5) .nil)) (.var 4)))
    .nil))))
def x_law_b2 : XSs :=
    (.cons (.ifs (.cmp .ne (.call x__law_answer (.cons (.var 3) (.cons (.var 5) (.cons (.var 6) (.cons (.var 7) .nil))))) (.call x__law_due (.cons (.var 2) (.cons (.var 5) (.cons (.var 6) (.cons (.var 7) .nil)))))) (.cons (.ret (.cst (.bl false)))
    .nil) .nil)
    .nil)
def x_law_b1 : XSs :=
    (.cons (.for_ (.name 7) (.val (.lst (.cons (.cst (.str [48])) (.cons (.cst (.str [49])) .nil)))) x_law_b2)
    (.cons (.ifs (.tand (.cmp2 .le .lt (.cst (.int 0)) (.var 6) (.var 4)) (.tand (.cmp .eq (.idx (.var 5) (.var 6)) (.cst (.str [46]))) (.not (.call x__law_is_parted (.cons (.var 3) (.cons (.var 2) (.cons (.var 5) (.cons (.var 6) .nil)))))))) (.cons (.ret (.cst (.bl false)))
    .nil) .nil)
    .nil))
def x_law_b0 : XSs :=
    (.cons (.ifs (.cmp .gt (.prm .len (.cons (.call x__law_fit (.cons (.var 2) (.cons (.var 5) .nil))) .nil)) (.cst (.int 0))) (.cons (.for_ (.name 6) (.rng2 (.neg (.cst (.int 1))) (.bin .add (.var 4) (.cst (.int 1)))) x_law_b1)
    .nil) .nil)
    .nil)
def x_law : XF := .mk "law" 1 8 1
    (.cons (.asg (.name 1) (.call x__law_deck (.cons (.var 0) .nil)))
    (.cons (.asg (.name 2) (.call x__law_rows (.cons (.var 1) .nil)))
    (.cons (.asg (.name 3) (.make "Lot" x_Lot_init (.cons (.var 2) .nil)))
    (.cons (.asg (.name 4) (.prm .len (.cons (.idx (.var 2) (.cst (.int 0))) .nil)))
    (.cons (.for_ (.name 5) (.val (.call x__law_strings (.cons (.var 4) .nil))) x_law_b0)
    (.cons (.ret (.cst (.bl true)))
    .nil))))))
end Lk

namespace Hd
open PySem PySem.Spec PyProof.Rows L2 Lk
def top (i : Nat) : Stmt := PySem.Challenge.pw_likeslips_k04_whole_signs_told_in_small.main.body.getD i (.Pass ⟨0, 0, 0, 0⟩)
abbrev N__law_deck : List PySem.Str := ["_law_script", "_law_cell"]
theorem ck__law_deck : chkSs (bodyOf x__law_deck) (kxOf N__law_deck (defScope (top 27)) "_law_deck") (defBody (top 27)) = true := by decide +kernel
theorem sc__law_deck : FnScope N__law_deck ["_law_script"] (defScope (top 27)) := ⟨rfl, rfl, rfl, by decide +kernel, rfl, by decide +kernel, by decide +kernel⟩
abbrev N__law_pick : List PySem.Str := ["_law_deck_here", "_law_many", "_law_cells", "_law_cell", "_law_number", "_law_found"]
theorem ck__law_pick : chkSs (bodyOf x__law_pick) (kxOf N__law_pick (defScope (top 28)) "_law_pick") (defBody (top 28)) = true := by decide +kernel
theorem sc__law_pick : FnScope N__law_pick ["_law_deck_here", "_law_many"] (defScope (top 28)) := ⟨rfl, rfl, rfl, by decide +kernel, rfl, by decide +kernel, by decide +kernel⟩
abbrev N__law_row : List PySem.Str := ["_law_number", "_law_places", "_law_at"]
theorem ck__law_row : chkSs (bodyOf x__law_row) (kxOf N__law_row (defScope (top 29)) "_law_row") (defBody (top 29)) = true := by decide +kernel
theorem sc__law_row : FnScope N__law_row ["_law_number", "_law_places"] (defScope (top 29)) := ⟨rfl, rfl, rfl, by decide +kernel, rfl, by decide +kernel, by decide +kernel⟩
abbrev N__law_rows : List PySem.Str := ["_law_deck_here", "_law_places", "_law_many", "_law_mask", "_law_number"]
theorem ck__law_rows : chkSs (bodyOf x__law_rows) (kxOf N__law_rows (defScope (top 30)) "_law_rows") (defBody (top 30)) = true := by decide +kernel
theorem sc__law_rows : FnScope N__law_rows ["_law_deck_here"] (defScope (top 30)) := ⟨rfl, rfl, rfl, by decide +kernel, rfl, by decide +kernel, by decide +kernel⟩
abbrev N_is_row : List PySem.Str := ["thing", "sign"]
theorem ck_is_row : chkSs (bodyOf x_is_row) (kxOf N_is_row (defScope (top 14)) "is_row") (defBody (top 14)) = true := by decide +kernel
theorem sc_is_row : FnScope N_is_row ["thing"] (defScope (top 14)) := ⟨rfl, rfl, rfl, by decide +kernel, rfl, by decide +kernel, by decide +kernel⟩
abbrev N_Lot_init : List PySem.Str := ["self", "rows", "index", "row"]
theorem ck_Lot_init : chkSs (bodyOf x_Lot_init) ⟨N_Lot_init, defScope (inClass (top 15) 0), cellsOf (defScope (inClass (top 15) 0)), none⟩ (defBody (inClass (top 15) 0)) = true := by decide +kernel
theorem sc_Lot_init : FnScope N_Lot_init ["self", "rows"] (defScope (inClass (top 15) 0)) := ⟨rfl, rfl, rfl, by decide +kernel, rfl, by decide +kernel, by decide +kernel⟩
abbrev N__law_strings : List PySem.Str := ["_law_places", "_law_found", "_law_turn", "_law_longer", "_law_text", "_law_mark"]
theorem ck__law_strings : chkSs (bodyOf x__law_strings) (kxOf N__law_strings (defScope (top 31)) "_law_strings") (defBody (top 31)) = true := by decide +kernel
theorem sc__law_strings : FnScope N__law_strings ["_law_places"] (defScope (top 31)) := ⟨rfl, rfl, rfl, by decide +kernel, rfl, by decide +kernel, by decide +kernel⟩
abbrev N__law_fit : List PySem.Str := ["_law_rows_here", "_law_standing", "_law_found", "_law_row_here", "_law_at"]
theorem ck__law_fit : chkSs (bodyOf x__law_fit) (kxOf N__law_fit (defScope (top 32)) "_law_fit") (defBody (top 32)) = true := by decide +kernel
theorem sc__law_fit : FnScope N__law_fit ["_law_rows_here", "_law_standing"] (defScope (top 32)) := ⟨rfl, rfl, rfl, by decide +kernel, rfl, by decide +kernel, by decide +kernel⟩
abbrev N_is_marked : List PySem.Str := ["thing", "length", "mark"]
theorem ck_is_marked : chkSs (bodyOf x_is_marked) (kxOf N_is_marked (defScope (top 18)) "is_marked") (defBody (top 18)) = true := by decide +kernel
theorem sc_is_marked : FnScope N_is_marked ["thing", "length"] (defScope (top 18)) := ⟨rfl, rfl, rfl, by decide +kernel, rfl, by decide +kernel, by decide +kernel⟩
abbrev N_fits : List PySem.Str := ["row", "standing", "sign", "mark"]
theorem ck_fits : chkSs (bodyOf x_fits) (kxOf N_fits (defScope (top 16)) "fits") (defBody (top 16)) = true := by decide +kernel
theorem sc_fits : FnScope N_fits ["row", "standing"] (defScope (top 16)) := ⟨rfl, rfl, rfl, by decide +kernel, rfl, by decide +kernel, by decide +kernel⟩
abbrev N_is_standing : List PySem.Str := ["lot", "thing", "row"]
theorem ck_is_standing : chkSs (bodyOf x_is_standing) (kxOf N_is_standing (defScope (top 19)) "is_standing") (defBody (top 19)) = true := by decide +kernel
theorem sc_is_standing : FnScope N_is_standing ["lot", "thing"] (defScope (top 19)) := ⟨rfl, rfl, rfl, by decide +kernel, rfl, by decide +kernel, by decide +kernel⟩
abbrev N_check_standing : List PySem.Str := ["lot", "thing"]
theorem ck_check_standing : chkSs (bodyOf x_check_standing) (kxOf N_check_standing (defScope (top 20)) "check_standing") (defBody (top 20)) = true := by decide +kernel
theorem sc_check_standing : FnScope N_check_standing ["lot", "thing"] (defScope (top 20)) := ⟨rfl, rfl, rfl, by decide +kernel, rfl, by decide +kernel, by decide +kernel⟩
abbrev N_is_integer : List PySem.Str := ["thing"]
theorem ck_is_integer : chkSs (bodyOf x_is_integer) (kxOf N_is_integer (defScope (top 12)) "is_integer") (defBody (top 12)) = true := by decide +kernel
theorem sc_is_integer : FnScope N_is_integer ["thing"] (defScope (top 12)) := ⟨rfl, rfl, rfl, by decide +kernel, rfl, by decide +kernel, by decide +kernel⟩
abbrev N_is_place : List PySem.Str := ["lot", "thing"]
theorem ck_is_place : chkSs (bodyOf x_is_place) (kxOf N_is_place (defScope (top 22)) "is_place") (defBody (top 22)) = true := by decide +kernel
theorem sc_is_place : FnScope N_is_place ["lot", "thing"] (defScope (top 22)) := ⟨rfl, rfl, rfl, by decide +kernel, rfl, by decide +kernel, by decide +kernel⟩
abbrev N_is_left : List PySem.Str := ["lot", "standing", "thing"]
theorem ck_is_left : chkSs (bodyOf x_is_left) (kxOf N_is_left (defScope (top 23)) "is_left") (defBody (top 23)) = true := by decide +kernel
theorem sc_is_left : FnScope N_is_left ["lot", "standing", "thing"] (defScope (top 23)) := ⟨rfl, rfl, rfl, by decide +kernel, rfl, by decide +kernel, by decide +kernel⟩
abbrev N_is_sign : List PySem.Str := ["thing"]
theorem ck_is_sign : chkSs (bodyOf x_is_sign) (kxOf N_is_sign (defScope (top 13)) "is_sign") (defBody (top 13)) = true := by decide +kernel
theorem sc_is_sign : FnScope N_is_sign ["thing"] (defScope (top 13)) := ⟨rfl, rfl, rfl, by decide +kernel, rfl, by decide +kernel, by decide +kernel⟩
abbrev N_with_sign : List PySem.Str := ["standing", "place", "sign"]
theorem ck_with_sign : chkSs (bodyOf x_with_sign) (kxOf N_with_sign (defScope (top 24)) "with_sign") (defBody (top 24)) = true := by decide +kernel
theorem sc_with_sign : FnScope N_with_sign ["standing", "place", "sign"] (defScope (top 24)) := ⟨rfl, rfl, rfl, by decide +kernel, rfl, by decide +kernel, by decide +kernel⟩
abbrev N_told : List PySem.Str := ["lot", "standing", "place", "sign", "found"]
theorem ck_told : chkSs (bodyOf x_told) (kxOf N_told (defScope (top 25)) "told") (defBody (top 25)) = true := by decide +kernel
theorem sc_told : FnScope N_told ["lot", "standing", "place", "sign"] (defScope (top 25)) := ⟨rfl, rfl, rfl, by decide +kernel, rfl, by decide +kernel, by decide +kernel⟩
abbrev N__law_answer : List PySem.Str := ["_law_lot", "_law_standing", "_law_place", "_law_sign", "_law_answer_here", "e"]
theorem ck__law_answer : chkSs (bodyOf x__law_answer) (kxOf N__law_answer (defScope (top 33)) "_law_answer") (defBody (top 33)) = true := by decide +kernel
theorem sc__law_answer : FnScope N__law_answer ["_law_lot", "_law_standing", "_law_place", "_law_sign"] (defScope (top 33)) := ⟨rfl, rfl, rfl, by decide +kernel, rfl, by decide +kernel, by decide +kernel⟩
abbrev N__law_due : List PySem.Str := ["_law_rows_here", "_law_standing", "_law_place", "_law_sign", "_law_later"]
theorem ck__law_due : chkSs (bodyOf x__law_due) (kxOf N__law_due (defScope (top 34)) "_law_due") (defBody (top 34)) = true := by decide +kernel
theorem sc__law_due : FnScope N__law_due ["_law_rows_here", "_law_standing", "_law_place", "_law_sign"] (defScope (top 34)) := ⟨rfl, rfl, rfl, by decide +kernel, rfl, by decide +kernel, by decide +kernel⟩
abbrev N_rows_at : List PySem.Str := ["lot", "standing", "row"]
theorem ck_rows_at : chkSs (bodyOf x_rows_at) (kxOf N_rows_at (defScope (top 17)) "rows_at") (defBody (top 17)) = true := by decide +kernel
theorem sc_rows_at : FnScope N_rows_at ["lot", "standing"] (defScope (top 17)) := ⟨rfl, rfl, rfl, by decide +kernel, rfl, by decide +kernel, by decide +kernel⟩
abbrev N_fitting : List PySem.Str := ["lot", "standing"]
theorem ck_fitting : chkSs (bodyOf x_fitting) (kxOf N_fitting (defScope (top 21)) "fitting") (defBody (top 21)) = true := by decide +kernel
theorem sc_fitting : FnScope N_fitting ["lot", "standing"] (defScope (top 21)) := ⟨rfl, rfl, rfl, by decide +kernel, rfl, by decide +kernel, by decide +kernel⟩
abbrev N__law_is_parted : List PySem.Str := ["_law_lot", "_law_rows_here", "_law_standing", "_law_place", "_law_here", "_law_parts", "_law_sign", "_law_part", "_law_row_here"]
theorem ck__law_is_parted : chkSs (bodyOf x__law_is_parted) (kxOf N__law_is_parted (defScope (top 35)) "_law_is_parted") (defBody (top 35)) = true := by decide +kernel
theorem sc__law_is_parted : FnScope N__law_is_parted ["_law_lot", "_law_rows_here", "_law_standing", "_law_place"] (defScope (top 35)) := ⟨rfl, rfl, rfl, by decide +kernel, rfl, by decide +kernel, by decide +kernel⟩
abbrev N_law : List PySem.Str := ["_law_script", "_law_deck_here", "_law_rows_here", "_law_lot", "_law_places", "_law_standing", "_law_place", "_law_sign"]
theorem ck_law : chkSs (bodyOf x_law) (kxOf N_law (defScope (top 36)) "law") (defBody (top 36)) = true := by decide +kernel
theorem sc_law : FnScope N_law ["_law_script"] (defScope (top 36)) := ⟨rfl, rfl, rfl, by decide +kernel, rfl, by decide +kernel, by decide +kernel⟩
theorem sr_BadLot : FnScope ["self", "index"] ["self", "index"] (defScope (inClass (top 2) 0)) := ⟨rfl, rfl, rfl, by decide +kernel, rfl, by decide +kernel, by decide +kernel⟩
theorem cr_BadLot : iniB ["index"] ⟨["self", "index"], defScope (inClass (top 2) 0), cellsOf (defScope (inClass (top 2) 0)), none⟩ (defBody (inClass (top 2) 0)) = true := by decide +kernel
theorem sr_BadPlace : FnScope ["self", "place"] ["self", "place"] (defScope (inClass (top 4) 0)) := ⟨rfl, rfl, rfl, by decide +kernel, rfl, by decide +kernel, by decide +kernel⟩
theorem cr_BadPlace : iniB ["place"] ⟨["self", "place"], defScope (inClass (top 4) 0), cellsOf (defScope (inClass (top 4) 0)), none⟩ (defBody (inClass (top 4) 0)) = true := by decide +kernel
theorem sr_BadSign : FnScope ["self", "sign"] ["self", "sign"] (defScope (inClass (top 5) 0)) := ⟨rfl, rfl, rfl, by decide +kernel, rfl, by decide +kernel, by decide +kernel⟩
theorem cr_BadSign : iniB ["sign"] ⟨["self", "sign"], defScope (inClass (top 5) 0), cellsOf (defScope (inClass (top 5) 0)), none⟩ (defBody (inClass (top 5) 0)) = true := by decide +kernel
def ec : List (String × List String) := [("BadLot", ["index"]), ("BadPlace", ["place"]), ("BadSign", ["sign"])]
def fn : List He.DefD := [⟨("_law_deck", none), "_law_deck", "_law_deck", defArgs (top 27), defBody (top 27), defScope (top 27), [], []⟩,
  ⟨("_law_pick", none), "_law_pick", "_law_pick", defArgs (top 28), defBody (top 28), defScope (top 28), [], []⟩,
  ⟨("_law_row", none), "_law_row", "_law_row", defArgs (top 29), defBody (top 29), defScope (top 29), [], []⟩,
  ⟨("_law_rows", none), "_law_rows", "_law_rows", defArgs (top 30), defBody (top 30), defScope (top 30), [], []⟩,
  ⟨("is_row", none), "is_row", "is_row", defArgs (top 14), defBody (top 14), defScope (top 14), [], []⟩,
  ⟨("Lot", some "__init__"), "__init__", "Lot.__init__", defArgs (inClass (top 15) 0), defBody (inClass (top 15) 0), defScope (inClass (top 15) 0), [], []⟩,
  ⟨("_law_strings", none), "_law_strings", "_law_strings", defArgs (top 31), defBody (top 31), defScope (top 31), [], []⟩,
  ⟨("_law_fit", none), "_law_fit", "_law_fit", defArgs (top 32), defBody (top 32), defScope (top 32), [], []⟩,
  ⟨("is_marked", none), "is_marked", "is_marked", defArgs (top 18), defBody (top 18), defScope (top 18), [], []⟩,
  ⟨("fits", none), "fits", "fits", defArgs (top 16), defBody (top 16), defScope (top 16), [], []⟩,
  ⟨("is_standing", none), "is_standing", "is_standing", defArgs (top 19), defBody (top 19), defScope (top 19), [], []⟩,
  ⟨("check_standing", none), "check_standing", "check_standing", defArgs (top 20), defBody (top 20), defScope (top 20), [], []⟩,
  ⟨("is_integer", none), "is_integer", "is_integer", defArgs (top 12), defBody (top 12), defScope (top 12), [], []⟩,
  ⟨("is_place", none), "is_place", "is_place", defArgs (top 22), defBody (top 22), defScope (top 22), [], []⟩,
  ⟨("is_left", none), "is_left", "is_left", defArgs (top 23), defBody (top 23), defScope (top 23), [], []⟩,
  ⟨("is_sign", none), "is_sign", "is_sign", defArgs (top 13), defBody (top 13), defScope (top 13), [], []⟩,
  ⟨("with_sign", none), "with_sign", "with_sign", defArgs (top 24), defBody (top 24), defScope (top 24), [], []⟩,
  ⟨("told", none), "told", "told", defArgs (top 25), defBody (top 25), defScope (top 25), [], []⟩,
  ⟨("_law_answer", none), "_law_answer", "_law_answer", defArgs (top 33), defBody (top 33), defScope (top 33), [], []⟩,
  ⟨("_law_due", none), "_law_due", "_law_due", defArgs (top 34), defBody (top 34), defScope (top 34), [], []⟩,
  ⟨("rows_at", none), "rows_at", "rows_at", defArgs (top 17), defBody (top 17), defScope (top 17), [], []⟩,
  ⟨("fitting", none), "fitting", "fitting", defArgs (top 21), defBody (top 21), defScope (top 21), [], []⟩,
  ⟨("_law_is_parted", none), "_law_is_parted", "_law_is_parted", defArgs (top 35), defBody (top 35), defScope (top 35), [], []⟩,
  ⟨("law", none), "law", "law", defArgs (top 36), defBody (top 36), defScope (top 36), [], []⟩,
  ⟨("BadLot", some "__init__"), "__init__", "BadLot.__init__", defArgs (inClass (top 2) 0), defBody (inClass (top 2) 0), defScope (inClass (top 2) 0), [], []⟩,
  ⟨("BadPlace", some "__init__"), "__init__", "BadPlace.__init__", defArgs (inClass (top 4) 0), defBody (inClass (top 4) 0), defScope (inClass (top 4) 0), [], []⟩,
  ⟨("BadSign", some "__init__"), "__init__", "BadSign.__init__", defArgs (inClass (top 5) 0), defBody (inClass (top 5) 0), defScope (inClass (top 5) 0), [], []⟩]
def cls : List String := ["SlipError", "BadLot", "BadStanding", "BadPlace", "BadSign", "NoRow", "Lot"]
def ic : List String := ["Lot"]
def ts : List XF := [x__law_deck, x__law_pick, x__law_row, x__law_rows, x_is_row, x_Lot_init, x__law_strings, x__law_fit, x_is_marked, x_fits, x_is_standing, x_check_standing, x_is_integer, x_is_place, x_is_left, x_is_sign, x_with_sign, x_told, x__law_answer, x__law_due, x_rows_at, x_fitting, x__law_is_parted, x_law]
abbrev R : PySem.W.OpenRow := PySem.W.OpenLaw.row PySem.Challenge.rw_likeslips_k04_whole_signs_told_in_small
abbrev hk : PySem.W.Hook := hookX 5 cls ic ec ts fn
def ob (s : PySem.W.SharedT) : He.AlD := obsXG 5 cls ic ec ts fn (HandSHeadRun.getT s)
theorem ob_eq (s : PySem.W.SharedT) : ob s = hk.obs s.abs := obsXG_eq (HandSHeadRun.getT_eq s)
def names : List PySem.Str := [("SlipError" : PySem.Str), ("BadLot" : PySem.Str), ("BadStanding" : PySem.Str), ("BadPlace" : PySem.Str), ("BadSign" : PySem.Str), ("NoRow" : PySem.Str), ("SIGNS" : PySem.Str), ("DOT" : PySem.Str), ("MOST_ROWS" : PySem.Str), ("MOST_PLACES" : PySem.Str), ("is_integer" : PySem.Str), ("is_sign" : PySem.Str), ("is_row" : PySem.Str), ("Lot" : PySem.Str), ("fits" : PySem.Str), ("rows_at" : PySem.Str), ("is_marked" : PySem.Str), ("is_standing" : PySem.Str), ("check_standing" : PySem.Str), ("fitting" : PySem.Str), ("is_place" : PySem.Str), ("is_left" : PySem.Str), ("with_sign" : PySem.Str), ("told" : PySem.Str), ("_law_deck" : PySem.Str), ("_law_pick" : PySem.Str), ("_law_row" : PySem.Str), ("_law_rows" : PySem.Str), ("_law_strings" : PySem.Str), ("_law_fit" : PySem.Str), ("_law_answer" : PySem.Str), ("_law_due" : PySem.Str), ("_law_is_parted" : PySem.Str)]
theorem run (w : World) : HandSHeadRun.RunEq R (PySem.W.view R.prog [36]) hk ob 20000 names w := by
  intro os
  kernel_rfl
theorem facts {P : Program} {w : World} {K : PySem.W.Frag} {h : Heap} {mg : PySem.Str → Option Value} {f : Addr} (X : K.In h) (G : h.Ns mainGlobals mg) (hfa : mg ("law" : PySem.Str) = some (.ref f)) (c : obsX cls ic ec ts fn K = He.valD fn) :
    ∃ fd : FuncData, (∀ (s : Shared) (v : Value), BindsTo s fd ⟨[v], []⟩ [("_law_script", v)]) ∧ ∀ base : Heap, K.In base → base.Ns mainGlobals mg → FnOk P w K mg base (L2.CX P w) 6 f fd ["_law_script"] (spFn K (clK K cls) 1 (evF x_law)) := by
  have fr := SaysX.free c X G
  have st := (SaysX.bl c).2.2.2.1
  obtain ⟨fd0, D0⟩ := SaysX.def_ c 0 rfl
  obtain ⟨fd1, D1⟩ := SaysX.def_ c 1 rfl
  obtain ⟨fd2, D2⟩ := SaysX.def_ c 2 rfl
  obtain ⟨fd3, D3⟩ := SaysX.def_ c 3 rfl
  obtain ⟨fd4, D4⟩ := SaysX.def_ c 4 rfl
  obtain ⟨fd5, D5⟩ := SaysX.def_ c 5 rfl
  obtain ⟨fd6, D6⟩ := SaysX.def_ c 6 rfl
  obtain ⟨fd7, D7⟩ := SaysX.def_ c 7 rfl
  obtain ⟨fd8, D8⟩ := SaysX.def_ c 8 rfl
  obtain ⟨fd9, D9⟩ := SaysX.def_ c 9 rfl
  obtain ⟨fd10, D10⟩ := SaysX.def_ c 10 rfl
  obtain ⟨fd11, D11⟩ := SaysX.def_ c 11 rfl
  obtain ⟨fd12, D12⟩ := SaysX.def_ c 12 rfl
  obtain ⟨fd13, D13⟩ := SaysX.def_ c 13 rfl
  obtain ⟨fd14, D14⟩ := SaysX.def_ c 14 rfl
  obtain ⟨fd15, D15⟩ := SaysX.def_ c 15 rfl
  obtain ⟨fd16, D16⟩ := SaysX.def_ c 16 rfl
  obtain ⟨fd17, D17⟩ := SaysX.def_ c 17 rfl
  obtain ⟨fd18, D18⟩ := SaysX.def_ c 18 rfl
  obtain ⟨fd19, D19⟩ := SaysX.def_ c 19 rfl
  obtain ⟨fd20, D20⟩ := SaysX.def_ c 20 rfl
  obtain ⟨fd21, D21⟩ := SaysX.def_ c 21 rfl
  obtain ⟨fd22, D22⟩ := SaysX.def_ c 22 rfl
  obtain ⟨fd23, D23⟩ := SaysX.def_ c 23 rfl
  obtain ⟨fd24, D24⟩ := SaysX.def_ c 24 rfl
  obtain ⟨fd25, D25⟩ := SaysX.def_ c 25 rfl
  obtain ⟨fd26, D26⟩ := SaysX.def_ c 26 rfl
  have e := hfa.symm.trans (SaysX.glo c X G 23 rfl rfl)
  cases e
  have b0 : Binds K fd0 ["_law_script"] [] := FunD.bindsN D0 fun _ _ _ _ _ _ us hl => match us, hl with | [_], _ => rfl
  have b1 : Binds K fd1 ["_law_deck_here", "_law_many"] [] := FunD.bindsN D1 fun _ _ _ _ _ _ us hl => match us, hl with | [_, _], _ => rfl
  have b2 : Binds K fd2 ["_law_number", "_law_places"] [] := FunD.bindsN D2 fun _ _ _ _ _ _ us hl => match us, hl with | [_, _], _ => rfl
  have b3 : Binds K fd3 ["_law_deck_here"] [] := FunD.bindsN D3 fun _ _ _ _ _ _ us hl => match us, hl with | [_], _ => rfl
  have b4 : Binds K fd4 ["thing"] [] := FunD.bindsN D4 fun _ _ _ _ _ _ us hl => match us, hl with | [_], _ => rfl
  have b5 : Binds K fd5 ["self", "rows"] [] := FunD.bindsN D5 fun _ _ _ _ _ _ us hl => match us, hl with | [_, _], _ => rfl
  have b6 : Binds K fd6 ["_law_places"] [] := FunD.bindsN D6 fun _ _ _ _ _ _ us hl => match us, hl with | [_], _ => rfl
  have b7 : Binds K fd7 ["_law_rows_here", "_law_standing"] [] := FunD.bindsN D7 fun _ _ _ _ _ _ us hl => match us, hl with | [_, _], _ => rfl
  have b8 : Binds K fd8 ["thing", "length"] [] := FunD.bindsN D8 fun _ _ _ _ _ _ us hl => match us, hl with | [_, _], _ => rfl
  have b9 : Binds K fd9 ["row", "standing"] [] := FunD.bindsN D9 fun _ _ _ _ _ _ us hl => match us, hl with | [_, _], _ => rfl
  have b10 : Binds K fd10 ["lot", "thing"] [] := FunD.bindsN D10 fun _ _ _ _ _ _ us hl => match us, hl with | [_, _], _ => rfl
  have b11 : Binds K fd11 ["lot", "thing"] [] := FunD.bindsN D11 fun _ _ _ _ _ _ us hl => match us, hl with | [_, _], _ => rfl
  have b12 : Binds K fd12 ["thing"] [] := FunD.bindsN D12 fun _ _ _ _ _ _ us hl => match us, hl with | [_], _ => rfl
  have b13 : Binds K fd13 ["lot", "thing"] [] := FunD.bindsN D13 fun _ _ _ _ _ _ us hl => match us, hl with | [_, _], _ => rfl
  have b14 : Binds K fd14 ["lot", "standing", "thing"] [] := FunD.bindsN D14 fun _ _ _ _ _ _ us hl => match us, hl with | [_, _, _], _ => rfl
  have b15 : Binds K fd15 ["thing"] [] := FunD.bindsN D15 fun _ _ _ _ _ _ us hl => match us, hl with | [_], _ => rfl
  have b16 : Binds K fd16 ["standing", "place", "sign"] [] := FunD.bindsN D16 fun _ _ _ _ _ _ us hl => match us, hl with | [_, _, _], _ => rfl
  have b17 : Binds K fd17 ["lot", "standing", "place", "sign"] [] := FunD.bindsN D17 fun _ _ _ _ _ _ us hl => match us, hl with | [_, _, _, _], _ => rfl
  have b18 : Binds K fd18 ["_law_lot", "_law_standing", "_law_place", "_law_sign"] [] := FunD.bindsN D18 fun _ _ _ _ _ _ us hl => match us, hl with | [_, _, _, _], _ => rfl
  have b19 : Binds K fd19 ["_law_rows_here", "_law_standing", "_law_place", "_law_sign"] [] := FunD.bindsN D19 fun _ _ _ _ _ _ us hl => match us, hl with | [_, _, _, _], _ => rfl
  have b20 : Binds K fd20 ["lot", "standing"] [] := FunD.bindsN D20 fun _ _ _ _ _ _ us hl => match us, hl with | [_, _], _ => rfl
  have b21 : Binds K fd21 ["lot", "standing"] [] := FunD.bindsN D21 fun _ _ _ _ _ _ us hl => match us, hl with | [_, _], _ => rfl
  have b22 : Binds K fd22 ["_law_lot", "_law_rows_here", "_law_standing", "_law_place"] [] := FunD.bindsN D22 fun _ _ _ _ _ _ us hl => match us, hl with | [_, _, _, _], _ => rfl
  have b23 : Binds K fd23 ["_law_script"] [] := FunD.bindsN D23 fun _ _ _ _ _ _ us hl => match us, hl with | [_], _ => rfl
  refine ⟨fd23, fun s v => (FunD.bindsA (ps := ["_law_script"]) D23 fun _ _ _ _ _ _ us hl => match us, hl with | [_], _ => rfl) s [v] rfl, fun base _ _ => ?_⟩
  have b24 : Binds K fd24 ["self", "index"] [] := FunD.bindsN D24 fun _ _ _ _ _ _ us hl => match us, hl with | [_, _], _ => rfl
  have r_BadLot : ∀ j, 2 ≤ j → RsN ⟨P, w, K, mg, base, clK K cls⟩ j "BadLot" ["index"] := fun j hj => SaysX.rsN c X G (by simp [ec]) b24 D24 sr_BadLot rfl rfl (by simp) (by decide) cr_BadLot hj
  have b25 : Binds K fd25 ["self", "place"] [] := FunD.bindsN D25 fun _ _ _ _ _ _ us hl => match us, hl with | [_, _], _ => rfl
  have r_BadPlace : ∀ j, 2 ≤ j → RsN ⟨P, w, K, mg, base, clK K cls⟩ j "BadPlace" ["place"] := fun j hj => SaysX.rsN c X G (by simp [ec]) b25 D25 sr_BadPlace rfl rfl (by simp) (by decide) cr_BadPlace hj
  have b26 : Binds K fd26 ["self", "sign"] [] := FunD.bindsN D26 fun _ _ _ _ _ _ us hl => match us, hl with | [_, _], _ => rfl
  have r_BadSign : ∀ j, 2 ≤ j → RsN ⟨P, w, K, mg, base, clK K cls⟩ j "BadSign" ["sign"] := fun j hj => SaysX.rsN c X G (by simp [ec]) b26 D26 sr_BadSign rfl rfl (by simp) (by decide) cr_BadSign hj
  have k0 : ∀ j, 1 ≤ j → FnKn ⟨P, w, K, mg, base, clK K cls⟩ j "_law_deck" (evF x__law_deck) := fun j hj => fn_kn (N := N__law_deck) (k := 0) (n := 1) D0 sc__law_deck rfl fr (SaysX.glo c X G 0 rfl rfl) b0 ck__law_deck (fun j hj => nd_of X G (st x__law_deck (by simp [ts])) trivial) j hj
  have k1 : ∀ j, 1 ≤ j → FnKn ⟨P, w, K, mg, base, clK K cls⟩ j "_law_pick" (evF x__law_pick) := fun j hj => fn_kn (N := N__law_pick) (k := 0) (n := 1) D1 sc__law_pick rfl fr (SaysX.glo c X G 1 rfl rfl) b1 ck__law_pick (fun j hj => nd_of X G (st x__law_pick (by simp [ts])) trivial) j hj
  have k2 : ∀ j, 1 ≤ j → FnKn ⟨P, w, K, mg, base, clK K cls⟩ j "_law_row" (evF x__law_row) := fun j hj => fn_kn (N := N__law_row) (k := 0) (n := 1) D2 sc__law_row rfl fr (SaysX.glo c X G 2 rfl rfl) b2 ck__law_row (fun j hj => nd_of X G (st x__law_row (by simp [ts])) trivial) j hj
  have k3 : ∀ j, 2 ≤ j → FnKn ⟨P, w, K, mg, base, clK K cls⟩ j "_law_rows" (evF x__law_rows) := fun j hj => fn_kn (N := N__law_rows) (k := 1) (n := 1) D3 sc__law_rows rfl fr (SaysX.glo c X G 3 rfl rfl) b3 ck__law_rows (fun j hj => nd_of X G (st x__law_rows (by simp [ts])) ⟨k1 j (Nat.le_trans (by decide) hj), k1 j (Nat.le_trans (by decide) hj), k2 j (Nat.le_trans (by decide) hj), trivial⟩) j hj
  have k4 : ∀ j, 1 ≤ j → FnKn ⟨P, w, K, mg, base, clK K cls⟩ j "is_row" (evF x_is_row) := fun j hj => fn_kn (N := N_is_row) (k := 0) (n := 1) D4 sc_is_row rfl fr (SaysX.glo c X G 4 rfl rfl) b4 ck_is_row (fun j hj => nd_of X G (st x_is_row (by simp [ts])) trivial) j hj
  have k5 : ∀ j, 4 ≤ j → InKn ⟨P, w, K, mg, base, clK K cls⟩ j "Lot" (evF x_Lot_init) := fun j hj => SaysX.inKn c X G (by simp [ic]) (by simp [cls]) b5 (fn_ok1 (N := N_Lot_init) (k := 2) D5 sc_Lot_init rfl fr ck_Lot_init (have hj : 2 ≤ 2 := Nat.le_refl _; have j := 2; nd_of X G (st x_Lot_init (by simp [ts])) ⟨r_BadLot 2 (Nat.le_trans (by decide) hj), k4 2 (Nat.le_trans (by decide) hj), r_BadLot 2 (Nat.le_trans (by decide) hj), trivial⟩)) hj
  have k6 : ∀ j, 1 ≤ j → FnKn ⟨P, w, K, mg, base, clK K cls⟩ j "_law_strings" (evF x__law_strings) := fun j hj => fn_kn (N := N__law_strings) (k := 0) (n := 1) D6 sc__law_strings rfl fr (SaysX.glo c X G 6 rfl rfl) b6 ck__law_strings (fun j hj => nd_of X G (st x__law_strings (by simp [ts])) trivial) j hj
  have k7 : ∀ j, 1 ≤ j → FnKn ⟨P, w, K, mg, base, clK K cls⟩ j "_law_fit" (evF x__law_fit) := fun j hj => fn_kn (N := N__law_fit) (k := 0) (n := 1) D7 sc__law_fit rfl fr (SaysX.glo c X G 7 rfl rfl) b7 ck__law_fit (fun j hj => nd_of X G (st x__law_fit (by simp [ts])) trivial) j hj
  have k8 : ∀ j, 1 ≤ j → FnKn ⟨P, w, K, mg, base, clK K cls⟩ j "is_marked" (evF x_is_marked) := fun j hj => fn_kn (N := N_is_marked) (k := 0) (n := 1) D8 sc_is_marked rfl fr (SaysX.glo c X G 8 rfl rfl) b8 ck_is_marked (fun j hj => nd_of X G (st x_is_marked (by simp [ts])) trivial) j hj
  have k9 : ∀ j, 1 ≤ j → FnKn ⟨P, w, K, mg, base, clK K cls⟩ j "fits" (evF x_fits) := fun j hj => fn_kn (N := N_fits) (k := 0) (n := 1) D9 sc_fits rfl fr (SaysX.glo c X G 9 rfl rfl) b9 ck_fits (fun j hj => nd_of X G (st x_fits (by simp [ts])) trivial) j hj
  have k10 : ∀ j, 2 ≤ j → FnKn ⟨P, w, K, mg, base, clK K cls⟩ j "is_standing" (evF x_is_standing) := fun j hj => fn_kn (N := N_is_standing) (k := 1) (n := 1) D10 sc_is_standing rfl fr (SaysX.glo c X G 10 rfl rfl) b10 ck_is_standing (fun j hj => nd_of X G (st x_is_standing (by simp [ts])) ⟨k8 j (Nat.le_trans (by decide) hj), k9 j (Nat.le_trans (by decide) hj), trivial⟩) j hj
  have k11 : ∀ j, 3 ≤ j → FnKn ⟨P, w, K, mg, base, clK K cls⟩ j "check_standing" (evF x_check_standing) := fun j hj => fn_kn (N := N_check_standing) (k := 2) (n := 1) D11 sc_check_standing rfl fr (SaysX.glo c X G 11 rfl rfl) b11 ck_check_standing (fun j hj => nd_of X G (st x_check_standing (by simp [ts])) ⟨k10 j (Nat.le_trans (by decide) hj), trivial⟩) j hj
  have k12 : ∀ j, 1 ≤ j → FnKn ⟨P, w, K, mg, base, clK K cls⟩ j "is_integer" (evF x_is_integer) := fun j hj => fn_kn (N := N_is_integer) (k := 0) (n := 1) D12 sc_is_integer rfl fr (SaysX.glo c X G 12 rfl rfl) b12 ck_is_integer (fun j hj => nd_of X G (st x_is_integer (by simp [ts])) trivial) j hj
  have k13 : ∀ j, 2 ≤ j → FnKn ⟨P, w, K, mg, base, clK K cls⟩ j "is_place" (evF x_is_place) := fun j hj => fn_kn (N := N_is_place) (k := 1) (n := 1) D13 sc_is_place rfl fr (SaysX.glo c X G 13 rfl rfl) b13 ck_is_place (fun j hj => nd_of X G (st x_is_place (by simp [ts])) ⟨k12 j (Nat.le_trans (by decide) hj), trivial⟩) j hj
  have k14 : ∀ j, 3 ≤ j → FnKn ⟨P, w, K, mg, base, clK K cls⟩ j "is_left" (evF x_is_left) := fun j hj => fn_kn (N := N_is_left) (k := 2) (n := 1) D14 sc_is_left rfl fr (SaysX.glo c X G 14 rfl rfl) b14 ck_is_left (fun j hj => nd_of X G (st x_is_left (by simp [ts])) ⟨k13 j (Nat.le_trans (by decide) hj), trivial⟩) j hj
  have k15 : ∀ j, 1 ≤ j → FnKn ⟨P, w, K, mg, base, clK K cls⟩ j "is_sign" (evF x_is_sign) := fun j hj => fn_kn (N := N_is_sign) (k := 0) (n := 1) D15 sc_is_sign rfl fr (SaysX.glo c X G 15 rfl rfl) b15 ck_is_sign (fun j hj => nd_of X G (st x_is_sign (by simp [ts])) trivial) j hj
  have k16 : ∀ j, 1 ≤ j → FnKn ⟨P, w, K, mg, base, clK K cls⟩ j "with_sign" (evF x_with_sign) := fun j hj => fn_kn (N := N_with_sign) (k := 0) (n := 1) D16 sc_with_sign rfl fr (SaysX.glo c X G 16 rfl rfl) b16 ck_with_sign (fun j hj => nd_of X G (st x_with_sign (by simp [ts])) trivial) j hj
  have k17 : ∀ j, 4 ≤ j → FnKn ⟨P, w, K, mg, base, clK K cls⟩ j "told" (evF x_told) := fun j hj => fn_kn (N := N_told) (k := 3) (n := 1) D17 sc_told rfl fr (SaysX.glo c X G 17 rfl rfl) b17 ck_told (fun j hj => nd_of X G (st x_told (by simp [ts])) ⟨k11 j (Nat.le_trans (by decide) hj), k14 j (Nat.le_trans (by decide) hj), r_BadPlace j (Nat.le_trans (by decide) hj), k15 j (Nat.le_trans (by decide) hj), r_BadSign j (Nat.le_trans (by decide) hj), k16 j (Nat.le_trans (by decide) hj), k10 j (Nat.le_trans (by decide) hj), trivial⟩) j hj
  have k18 : ∀ j, 5 ≤ j → FnKn ⟨P, w, K, mg, base, clK K cls⟩ j "_law_answer" (evF x__law_answer) := fun j hj => fn_kn (N := N__law_answer) (k := 4) (n := 1) D18 sc__law_answer rfl fr (SaysX.glo c X G 18 rfl rfl) b18 ck__law_answer (fun j hj => nd_of X G (st x__law_answer (by simp [ts])) ⟨k17 j (Nat.le_trans (by decide) hj), trivial⟩) j hj
  have k19 : ∀ j, 2 ≤ j → FnKn ⟨P, w, K, mg, base, clK K cls⟩ j "_law_due" (evF x__law_due) := fun j hj => fn_kn (N := N__law_due) (k := 1) (n := 1) D19 sc__law_due rfl fr (SaysX.glo c X G 19 rfl rfl) b19 ck__law_due (fun j hj => nd_of X G (st x__law_due (by simp [ts])) ⟨k7 j (Nat.le_trans (by decide) hj), trivial⟩) j hj
  have k20 : ∀ j, 2 ≤ j → FnKn ⟨P, w, K, mg, base, clK K cls⟩ j "rows_at" (evF x_rows_at) := fun j hj => fn_kn (N := N_rows_at) (k := 1) (n := 1) D20 sc_rows_at rfl fr (SaysX.glo c X G 20 rfl rfl) b20 ck_rows_at (fun j hj => nd_of X G (st x_rows_at (by simp [ts])) ⟨k9 j (Nat.le_trans (by decide) hj), trivial⟩) j hj
  have k21 : ∀ j, 4 ≤ j → FnKn ⟨P, w, K, mg, base, clK K cls⟩ j "fitting" (evF x_fitting) := fun j hj => fn_kn (N := N_fitting) (k := 3) (n := 1) D21 sc_fitting rfl fr (SaysX.glo c X G 21 rfl rfl) b21 ck_fitting (fun j hj => nd_of X G (st x_fitting (by simp [ts])) ⟨k20 j (Nat.le_trans (by decide) hj), k11 j (Nat.le_trans (by decide) hj), trivial⟩) j hj
  have k22 : ∀ j, 5 ≤ j → FnKn ⟨P, w, K, mg, base, clK K cls⟩ j "_law_is_parted" (evF x__law_is_parted) := fun j hj => fn_kn (N := N__law_is_parted) (k := 4) (n := 1) D22 sc__law_is_parted rfl fr (SaysX.glo c X G 22 rfl rfl) b22 ck__law_is_parted (fun j hj => nd_of X G (st x__law_is_parted (by simp [ts])) ⟨k7 j (Nat.le_trans (by decide) hj), k21 j (Nat.le_trans (by decide) hj), k17 j (Nat.le_trans (by decide) hj), trivial⟩) j hj
  exact fn_ok (N := N_law) (k := 5) (np := 1) D23 sc_law rfl fr (SaysX.glo c X G 23 rfl rfl) b23 ck_law (fun j hj => nd_of X G (st x_law (by simp [ts])) ⟨k0 j (Nat.le_trans (by decide) hj), k3 j (Nat.le_trans (by decide) hj), k5 j (Nat.le_trans (by decide) hj), k6 j (Nat.le_trans (by decide) hj), k7 j (Nat.le_trans (by decide) hj), k18 j (Nat.le_trans (by decide) hj), k19 j (Nat.le_trans (by decide) hj), k22 j (Nat.le_trans (by decide) hj), trivial⟩) 1
end Hd
namespace Lk
theorem op1_some {α β : Type} {a : α} {k : α → Rs β} : op1 (some a) k = k a := rfl
theorem fin_ret {v : PV} {o : Bool} {s : Sg} : fin (rt (.ret v o) s) = some (.ok (v, o), s.mu) := rfl
theorem fin_nx {s : Sg} : fin (rt .nx s) = some (.ok (.non, false), s.mu) := rfl
/-- keeps the executor out of what is not yet reached -/
inductive Tg {α : Type} (x : α) : Type
  | mk
def bdk {α β : Type} (m : Rs α) (k : α → Sg → Rs β) (_ : Tg k) : Rs β := bd m k
theorem bd_k {α β : Type} {m : Rs α} {k : α → Sg → Rs β} : bd m k = bdk m k .mk := Eq.trans (Eq.refl _) (Eq.refl _)
theorem bdk_rt {α β : Type} {a : α} {s : Sg} {k : α → Sg → Rs β} {t : Tg k} : bdk (rt a s) k t = k a s := Eq.trans (Eq.refl _) (Eq.refl _)
theorem bdk_some {α β : Type} {a : α} {s : Sg} {k : α → Sg → Rs β} {t : Tg k} : bdk (some (.ok a, s)) k t = k a s := Eq.trans (Eq.refl _) (Eq.refl _)
def op1k {α β : Type} (m : Option α) (k : α → Rs β) (_ : Tg k) : Rs β := op1 m k
theorem op1_k {α β : Type} {m : Option α} {k : α → Rs β} : op1 m k = op1k m k .mk := Eq.trans (Eq.refl _) (Eq.refl _)
theorem bdk_exc {α β : Type} {c : String} {fs : List (String × PV)} {s : Sg} {k : α → Sg → Rs β} {t : Tg k} : bdk (some (.exc c fs, s)) k t = some (.exc c fs, s) := Eq.trans (Eq.refl _) (Eq.refl _)
theorem fin_exc {c : String} {fs : List (String × PV)} {s : Sg} : fin (some (.exc c fs, s)) = some (.exc c fs, s.mu) := Eq.trans (Eq.refl _) (Eq.refl _)
def tryS (m : Rs Fl) (es : List String) (hs : XHs) : Rs Fl := match m with
  | some (.exc c fs, s) => if c ∈ es then evH hs c fs s else none
  | r => r
theorem evS_try {es : List String} {b : XSs} {hs : XHs} {F : Fn} {s : Sg} : evS (.try_ es b hs) F s = tryS (evSs b F s) es hs := Eq.trans (Eq.refl _) (Eq.refl _)
theorem tryS_rt {fl : Fl} {s : Sg} {es : List String} {hs : XHs} : tryS (rt fl s) es hs = rt fl s := Eq.trans (Eq.refl _) (Eq.refl _)
theorem tryS_exc {c : String} {fs : List (String × PV)} {s : Sg} {es : List String} {hs : XHs} : tryS (some (.exc c fs, s)) es hs = if c ∈ es then evH hs c fs s else none := Eq.trans (Eq.refl _) (Eq.refl _)
theorem op1k_some {α β : Type} {a : α} {k : α → Rs β} {t : Tg k} : op1k (some a) k t = k a := Eq.trans (Eq.refl _) (Eq.refl _)
theorem st_nx {a : XS} {r : XSs} {F : Fn} {s s1 : Sg} {m : Rs Fl} (h : evS a F s = rt .nx s1) (h2 : evSs r F s1 = m) : evSs (.cons a r) F s = m := by
  show bd (evS a F s) _ = m
  rw [h]; exact h2
theorem st_ret {a : XS} {r : XSs} {F : Fn} {s s1 : Sg} {v : PV} {o : Bool} (h : evS a F s = rt (.ret v o) s1) : evSs (.cons a r) F s = rt (.ret v o) s1 := by
  show bd (evS a F s) _ = _
  rw [h]; rfl
/-- a list comprehension that leaves the store -/
theorem compL_pure {α β : Type} {own : List Nat} {f : α → Sg → Rs (Option β)} {env : List Cell} {mu : List PV} (g : α → Option β) (hno : noOwn env own = true) : ∀ {xs : List α} (acc : List β), (∀ x ∈ xs, ∃ env', f x ⟨wipeE env own, mu⟩ = rt (g x) ⟨env', mu⟩ ∧ backE env env' own = env) →
    acc.length + xs.length ≤ SL → compL own f xs acc ⟨env, mu⟩ = rt (acc ++ xs.filterMap g) ⟨env, mu⟩
  | [], acc, _, _ => by simp [compL]
  | x :: r, acc, hf, hl => by
    obtain ⟨env', h1, h2⟩ := hf x List.mem_cons_self
    unfold compL
    rw [if_pos hno]
    simp only [List.length_cons] at hl
    cases hg : g x with
    | none =>
      rw [h1, hg]
      show compL own f r acc ⟨backE env env' own, mu⟩ = _
      rw [h2, compL_pure g hno acc (fun y hy => hf y (List.mem_cons_of_mem _ hy)) (by omega)]
      simp [hg]
    | some y =>
      rw [h1, hg]
      show (if acc.length < SL then compL own f r (acc ++ [y]) ⟨backE env env' own, mu⟩ else none) = _
      rw [if_pos (by omega), h2, compL_pure g hno (acc ++ [y]) (fun y hy => hf y (List.mem_cons_of_mem _ hy)) (by simp; omega)]
      simp [hg]
/-- a for loop: an invariant -/
theorem forL_nx {f : PV → Sg → Rs Fl} (I : Nat → Sg → Prop) : ∀ {xs : List PV} {s : Sg} (n : Nat), I n s → (∀ i x s, xs[i]? = some x → I (n + i) s → ∃ s', f x s = rt .nx s' ∧ I (n + i + 1) s') → ∃ s', forL f xs s = rt .nx s' ∧ I (n + xs.length) s'
  | [], s, n, h0, _ => ⟨s, rfl, h0⟩
  | x :: r, s, n, h0, hs => by
    obtain ⟨s1, e1, h1⟩ := hs 0 x s rfl h0
    obtain ⟨s2, e2, h2⟩ := forL_nx I (xs := r) (n + 1) h1 (fun i y s hy hi => by
      obtain ⟨s', e, h⟩ := hs (i + 1) y s (by simpa using hy) (by rw [show n + (i + 1) = n + 1 + i by omega]; exact hi)
      exact ⟨s', e, by rw [show n + 1 + i + 1 = n + (i + 1) + 1 by omega]; exact h⟩)
    refine ⟨s2, ?_, by rw [List.length_cons, show n + (r.length + 1) = n + 1 + r.length by omega]; exact h2⟩
    unfold forL
    rw [e1]; exact e2
/-- a for loop that may return early: d tells -/
theorem forL_find {f : PV → Sg → Rs Fl} (I : Sg → Prop) (o : Bool) (d : PV → Option PV) : ∀ {xs : List PV} {s : Sg}, I s → (∀ x ∈ xs, ∀ s, I s → match d x with | none => ∃ s', f x s = rt .nx s' ∧ I s' | some v => ∃ s', f x s = rt (.ret v o) s' ∧ I s') →
    match xs.findSome? d with | none => ∃ s', forL f xs s = rt .nx s' ∧ I s' | some v => ∃ s', forL f xs s = rt (.ret v o) s' ∧ I s'
  | [], s, h0, _ => ⟨s, rfl, h0⟩
  | x :: r, s, h0, hs => by
    have h1 := hs x List.mem_cons_self s h0
    rw [List.findSome?_cons]
    cases hd : d x with
    | some v =>
      rw [hd] at h1
      obtain ⟨s', e, h⟩ := h1
      refine ⟨s', ?_, h⟩
      unfold forL
      rw [e]; rfl
    | none =>
      rw [hd] at h1
      obtain ⟨s1, e, h⟩ := h1
      have ih := forL_find I o d (xs := r) h (fun y hy s hi => hs y (List.mem_cons_of_mem _ hy) s hi)
      have e2 : forL f (x :: r) s = forL f r s1 := by
        show bd (f x s) _ = _
        rw [e]; rfl
      rw [e2]
      exact ih
theorem filterMap_some_map {α β : Type} {h : α → β} {l : List α} : (l.filterMap fun x => some (h x)) = l.map h := by
  induction l with
  | nil => rfl
  | cons x r ih => simp
theorem fm_filter {α β : Type} {g : α → Option β} (P : α → Bool) (f : α → β) (h : ∀ x, g x = if P x = true then some (f x) else none) {l : List α} : l.filterMap g = (l.filter P).map f := by
  induction l with
  | nil => rfl
  | cons x r ih =>
    rw [List.filterMap_cons, List.filter_cons, h x, ih]
    by_cases hp : P x = true
    · rw [if_pos hp, if_pos hp]; rfl
    · rw [if_neg hp, if_neg hp]
theorem rangeP_0 {n : Nat} : rangeP 0 n = (List.range n).map fun (i : Nat) => PV.int i := by
  unfold rangeP
  simp
theorem mem_rangeP {a b : Int} {x : PV} : x ∈ rangeP a b ↔ ∃ i, a ≤ i ∧ i < b ∧ x = .int i := by
  unfold rangeP
  rw [List.mem_map]
  constructor
  · rintro ⟨i, hi, rfl⟩
    rw [List.mem_range] at hi
    exact ⟨a + i, by omega, by omega, rfl⟩
  · rintro ⟨i, h1, h2, rfl⟩
    refine ⟨(i - a).toNat, by rw [List.mem_range]; omega, ?_⟩
    congr 1; omega
theorem rgB_ok {a b : Int} (h1 : -(2 ^ 62) < a) (h2 : a < 2 ^ 62) (h3 : -(2 ^ 62) < b) (h4 : b < 2 ^ 62) : rgB a b = true := by
  unfold rgB
  simp only [Bool.and_eq_true, decide_eq_true_eq]
  omega
theorem len_rangeP {a b : Int} : (rangeP a b).length = (b - a).toNat := by unfold rangeP; simp
theorem strsOf_map {l : List (List Nat)} : strsOf (l.map PV.str) = some l := by
  induction l with
  | nil => rfl
  | cons x r ih => simp [strsOf, ih]
theorem intsOf_map {l : List Int} : intsOf (l.map PV.int) = some l := by
  induction l with
  | nil => rfl
  | cons x r ih => simp [intsOf, ih]
theorem blsOf_map {l : List Bool} : blsOf (l.map PV.bl) = some l := by
  induction l with
  | nil => rfl
  | cons x r ih => simp [blsOf, ih]
theorem joinL_nil : ∀ {l : List (List Nat)}, joinL [] l = l.flatten
  | [] => rfl
  | [x] => by simp [joinL]
  | x :: y :: r => by
    unfold joinL
    rw [joinL_nil (l := y :: r)]
    simp
theorem join_chars {l : List Nat} (h : l.length ≤ SL) : metP .join (.str []) [.lst (l.map fun c => PV.str [c])] = some (.str l) := by
  have hs : strsOf (l.map fun c => PV.str [c]) = some (l.map fun c => [c]) := by
    rw [← strsOf_map, List.map_map]; rfl
  have hj : joinL [] (l.map fun c => [c]) = l := by
    rw [joinL_nil]
    clear h hs
    induction l with
    | nil => rfl
    | cons x r ih => simp [ih]
  have hl : ((l.map fun c => [c]).map List.length).sum = l.length := by
    clear h hs hj
    induction l with
    | nil => rfl
    | cons x r ih =>
      rw [List.map_cons, List.map_cons, List.sum_cons, ih, List.length_cons]
      show 1 + r.length = r.length + 1
      omega
  show ((strsOf (l.map fun c => PV.str [c])).bind fun ss => if (ss.map List.length).sum + ss.length * ([] : List Nat).length ≤ SL then some (PV.str (joinL [] ss)) else none) = _
  rw [hs, Option.bind_some, hl, hj, if_pos (by simpa using h)]
theorem flat_strs {l : List (List Nat)} : (l.map PV.str).all flatP = true := by
  rw [List.all_map, List.all_eq_true]; intro x _; rfl
theorem flat_ints {l : List Int} : (l.map PV.int).all flatP = true := by
  rw [List.all_map, List.all_eq_true]; intro x _; rfl
theorem any_str {r : List Nat} {l : List (List Nat)} : ((l.map PV.str).any fun z => eqP z (.str r)) = decide (r ∈ l) := by
  rw [List.any_map, Bool.eq_iff_iff, List.any_eq_true, decide_eq_true_eq]
  constructor
  · rintro ⟨x, hx, e⟩
    have : (x == r) = true := e
    rw [beq_iff_eq] at this
    subst this; exact hx
  · intro h
    exact ⟨r, h, show (r == r) = true from beq_self_eq_true r⟩
theorem in_strs {r : List Nat} {l : List (List Nat)} : inP (.str r) (.lst (l.map PV.str)) = some (decide (r ∈ l)) := by
  show (if flatP (.str r) && (l.map PV.str).all flatP then some ((l.map PV.str).any fun z => eqP z (.str r)) else _) = _
  rw [flat_strs, any_str]; rfl
theorem in_strsT {r : List Nat} {l : List (List Nat)} : inP (.str r) (.tup (l.map PV.str)) = some (decide (r ∈ l)) := by
  show (if flatP (.str r) && (l.map PV.str).all flatP then some ((l.map PV.str).any fun z => eqP z (.str r)) else _) = _
  rw [flat_strs, any_str]; rfl
theorem cut_take {α : Type} {xs : List α} {i : Nat} : cut' xs none (some (i : Int)) = xs.take i := by
  show (xs.drop 0).take ((if (i : Int) < 0 then ((i : Int) + xs.length).toNat else min (i : Int).toNat xs.length) - 0) = _
  rw [if_neg (by omega)]
  simp only [List.drop_zero, Nat.sub_zero, Int.toNat_natCast]
  by_cases h : i ≤ xs.length
  · rw [Nat.min_eq_left h]
  · rw [Nat.min_eq_right (by omega), List.take_of_length_le (Nat.le_refl _), List.take_of_length_le (by omega)]
theorem cmp_ei {i j : Int} : cmpP .eq (.int i) (.int j) = some (decide (i = j)) := by
  show some (i == j) = _
  congr 1
theorem cmp_ni {i j : Int} : cmpP .ne (.int i) (.int j) = some (!decide (i = j)) := by
  show some (!(i == j)) = _
  congr 1
theorem beq_dec {α : Type} [DecidableEq α] {a b : α} : (a == b) = decide (a = b) := rfl
theorem cmp_es {a b : List Nat} : cmpP .eq (.str a) (.str b) = some (decide (a = b)) := by
  show some (a == b) = _
  congr 1
  rw [Bool.eq_iff_iff, beq_iff_eq, decide_eq_true_eq]
theorem cmp_ns {a b : List Nat} : cmpP .ne (.str a) (.str b) = some (!decide (a = b)) := by
  show some (!(a == b)) = _
  congr 2
  rw [Bool.eq_iff_iff, beq_iff_eq, decide_eq_true_eq]
theorem cmp_lt {i j : Int} : cmpP .lt (.int i) (.int j) = some (decide (i < j)) := rfl
theorem cmp_le {i j : Int} : cmpP .le (.int i) (.int j) = some (decide (i ≤ j)) := rfl
theorem cmp_gt {i j : Int} : cmpP .gt (.int i) (.int j) = some (decide (j < i)) := rfl
theorem cmp_ge {i j : Int} : cmpP .ge (.int i) (.int j) = some (decide (j ≤ i)) := rfl
theorem cmp_is {x y : PV} : cmpP .is x y = isP x y := rfl
theorem cmp_isn {x y : PV} : cmpP .isn x y = (isP x y).map (!·) := rfl
theorem cmp_in {x y : PV} : cmpP .in_ x y = inP x y := rfl
theorem cmp_nin {x y : PV} : cmpP .nin x y = (inP x y).map (!·) := rfl
theorem p_len_l {xs : List PV} : primP .len [.lst xs] = some (.int xs.length, false) := rfl
theorem p_len_t {xs : List PV} : primP .len [.tup xs] = some (.int xs.length, false) := rfl
theorem p_len_k {xs : List PV} : primP .len [.ktp xs] = some (.int xs.length, false) := rfl
theorem p_len_s {s : List Nat} : primP .len [.str s] = if s.length ≤ SL then some (.int s.length, false) else none := rfl
theorem p_int_i {i : Int} : primP .int [.int i] = some (.int i, false) := rfl
theorem p_int_b {b : Bool} : primP .int [.bl b] = some (.int (b2n b), false) := rfl
theorem p_tup_l {xs : List PV} : primP .tuple [.lst xs] = some (.tup xs, false) := rfl
theorem p_tup_t {xs : List PV} : primP .tuple [.tup xs] = some (.tup xs, false) := rfl
theorem p_lst_l {xs : List PV} : primP .list [.lst xs] = some (.lst xs, true) := rfl
theorem p_lst_t {xs : List PV} : primP .list [.tup xs] = some (.lst xs, true) := rfl
theorem p_srt_l {xs : List PV} : primP .sorted [.lst xs] = (sortP xs).map fun v => (v, true) := rfl
theorem p_all_l {xs : List PV} : primP .all [.lst xs] = (blsOf xs).map fun bs => (.bl (bs.all id), false) := rfl
theorem p_any_l {xs : List PV} : primP .any [.lst xs] = (blsOf xs).map fun bs => (.bl (bs.any id), false) := rfl
theorem p_sum_l {xs : List PV} : primP .sum [.lst xs] = (intsOf xs).map fun is => (.int is.sum, false) := rfl
theorem set_lst {xs : List PV} {k : Int} {v : PV} : setP (.lst xs) (.int k) v = (ixN' xs.length k).map fun j => .lst (xs.set j v) := rfl
/-- what is left of a block -/
def dropS : Nat → XSs → XSs
  | 0, b => b
  | _ + 1, .nil => .nil
  | n + 1, .cons _ r => dropS n r
theorem bd_some {α β : Type} {a : α} {s : Sg} {k : α → Sg → Rs β} : bd (some (.ok a, s)) k = k a s := rfl
theorem nd_take {α : Type} {l : List α} (h : l.Nodup) {i : Nat} {r : α} (hr : l[i]? = some r) : r ∉ l.take i := fun hq => by
  have hd : r ∈ l.drop i := List.mem_of_getElem? (i := 0) (by rw [List.getElem?_drop]; exact hr)
  rw [← List.take_append_drop i l, List.nodup_append] at h
  exact h.2.2 r hq r hd rfl
theorem slc_take {xs : List PV} {i : Nat} : slcP (.lst xs) none (some (i : Int)) = some (.lst (xs.take i), true) := by
  show some (PV.lst (cut' xs none (some (i : Int))), true) = _
  rw [cut_take]
theorem sortP_strs {l : List (List Nat)} : sortP (l.map PV.str) = some (.lst ((sortS l).map PV.str)) := by
  cases l with
  | nil => rfl
  | cons x r =>
    show (match intsOf (PV.str x :: r.map PV.str) with
      | some is => some (PV.lst ((sortI is).map .int))
      | none => match strsOf ((x :: r).map PV.str) with
        | some ss => some (.lst ((sortS ss).map .str))
        | none => none) = _
    rw [strsOf_map]; rfl
theorem sortP_ints {l : List Int} : sortP (l.map PV.int) = some (.lst ((sortI l).map PV.int)) := by
  unfold sortP
  rw [intsOf_map]
/-- of an int -/
def onI {α : Type} (f : Int → Option α) : PV → Option α
  | .int i => f i
  | _ => none
theorem find_map {α β γ : Type} {f : α → Option β} {e : β → γ} : ∀ {l : List α}, (l.findSome? fun x => (f x).map e) = (l.findSome? f).map e
  | [] => rfl
  | x :: r => by
    rw [List.findSome?_cons, List.findSome?_cons]
    cases f x with
    | none => exact find_map (l := r)
    | some y => rfl
theorem idx_ints {l : List Int} {i : Int} (h0 : 0 ≤ i) (h1 : i < l.length) : idxP (.lst (l.map .int)) (.int i) = some (.int (l.getD i.toNat 0)) := by
  show (ixN' (l.map PV.int).length i).bind ((l.map PV.int)[·]?) = _
  unfold ixN'
  rw [List.length_map, if_pos h0, if_pos h1, Option.bind_some, List.getElem?_map, List.getD_eq_getElem?_getD, List.getElem?_eq_getElem (by omega)]
  rfl
theorem idx_strsT {l : List (List Nat)} {i : Int} (h0 : 0 ≤ i) (h1 : i < l.length) : idxP (.tup (l.map .str)) (.int i) = some (.str (l.getD i.toNat [])) := by
  show (ixN' (l.map PV.str).length i).bind ((l.map PV.str)[·]?) = _
  unfold ixN'
  rw [List.length_map, if_pos h0, if_pos h1, Option.bind_some, List.getElem?_map, List.getD_eq_getElem?_getD, List.getElem?_eq_getElem (by omega)]
  rfl
theorem idx_chr {s : List Nat} {i : Nat} (h : i < s.length) (hl : s.length ≤ SL) : idxP (.str s) (.int i) = some (.str [s.getD i 0]) := by
  show (if s.length ≤ SL then (ixN' s.length (i : Int)).bind fun j => (s[j]?).map fun c => PV.str [c] else none) = _
  unfold ixN'
  rw [if_pos hl, if_pos (by omega), if_pos (by omega), Option.bind_some, Int.toNat_natCast, List.getD_eq_getElem?_getD, List.getElem?_eq_getElem h]
  rfl
theorem ixN_nat {n : Nat} {i : Nat} (h : i < n) : ixN' n (i : Int) = some i := by
  unfold ixN'
  rw [if_pos (by omega), if_pos (by omega)]
  simp
theorem pop_at {xs : List PV} {k : Nat} {y : PV} (h : xs[k]? = some y) (hl : xs.length ≤ SL) : mutP .pop (.lst xs) [.int k] = some (.lst (xs.eraseIdx k), y) := by
  show (if SL < xs.length then none else (ixN' xs.length (k : Int)).bind fun k => (xs[k]?).map fun y => (PV.lst (xs.eraseIdx k), y)) = _
  rw [if_neg (by omega), ixN_nat (List.getElem?_eq_some_iff.mp h).1, Option.bind_some, h]; rfl
theorem app_ok {xs : List PV} {y : PV} (hl : xs.length < SL) : mutP .append (.lst xs) [y] = some (.lst (xs ++ [y]), .non) := if_pos hl
/-! ### loops by name -/
def compS (own : List Nat) (t : XT) (c e : XE) (F : Fn) (xs : List PV) (s : Sg) : Rs (List PV) := compL own (turnS F t c e) xs [] s
theorem evR_comp {own : List Nat} {t : XT} {it : XI} {c e : XE} {F : Fn} {s : Sg} : evR (.comp own t it c e) F s = bd (evI it F s) fun xs s => bd (compS own t c e F xs s) fun ys s => rt (.lst ys, true) s := rfl
def dcompS (own : List Nat) (t : XT) (c k e : XE) (F : Fn) (xs : List PV) (s : Sg) : Rs (List (DKey × PV)) := compD own (turnD F t c k e) xs [] s
theorem evR_dcomp {own : List Nat} {t : XT} {it : XI} {c k e : XE} {F : Fn} {s : Sg} : evR (.dcomp own t it c k e) F s = bd (evI it F s) fun xs s => bd (dcompS own t c k e F xs s) fun kvs s => rt (.dic false kvs, true) s := rfl
def forS (t : XT) (body : XSs) (F : Fn) (xs : List PV) (s : Sg) : Rs Fl := forL (fun x s => op1 (bindT t x s) fun s => evSs body F s) xs s
theorem evS_for {t : XT} {it : XI} {body : XSs} {F : Fn} {s : Sg} : evS (.for_ t it body) F s = bd (evI it F s) fun xs s => forS t body F xs s := rfl
def whlS (c : XE) (body : XSs) (F : Fn) (n : Nat) (s : Sg) : Rs Fl := whlL (fun s => tst c (evR c F s) s) (fun s => evSs body F s) n s
theorem evS_whl {n : Nat} {c : XE} {body : XSs} {F : Fn} {s : Sg} : evS (.whl n c body) F s = whlS c body F n s := rfl
theorem compS_pure {own : List Nat} {t : XT} {c e : XE} {F : Fn} {env : List Cell} {mu : List PV} (g : PV → Option PV) {xs : List PV} (hno : noOwn env own = true) (hf : ∀ x ∈ xs, ∃ env', turnS F t c e x ⟨wipeE env own, mu⟩ = rt (g x) ⟨env', mu⟩ ∧ backE env env' own = env)
    (hl : xs.length ≤ SL) : compS own t c e F xs ⟨env, mu⟩ = rt (xs.filterMap g) ⟨env, mu⟩ := (compL_pure g hno [] hf (by simpa using hl)).trans (by simp)
theorem forS_nx {t : XT} {body : XSs} {F : Fn} {xs : List PV} {s : Sg} (I : Nat → Sg → Prop) (h0 : I 0 s) (hs : ∀ i x s, xs[i]? = some x → I i s → ∃ s1 s', bindT t x s = some s1 ∧ evSs body F s1 = rt .nx s' ∧ I (i + 1) s') : ∃ s', forS t body F xs s = rt .nx s' ∧ I xs.length s' := by
  obtain ⟨s', e, h⟩ := forL_nx (f := fun x s => op1 (bindT t x s) fun s => evSs body F s) I (xs := xs) 0 h0 (fun i x s hx hi => by
    obtain ⟨s1, s', e1, e2, h⟩ := hs i x s hx (by simpa using hi)
    exact ⟨s', by rw [e1]; exact e2, by simpa using h⟩)
  exact ⟨s', e, by simpa using h⟩
theorem forS_find {t : XT} {body : XSs} {F : Fn} {xs : List PV} {s : Sg} (I : Sg → Prop) (o : Bool) (d : PV → Option PV) (h0 : I s) (hs : ∀ x ∈ xs, ∀ s, I s → ∃ s1, bindT t x s = some s1 ∧ match d x with | none => ∃ s', evSs body F s1 = rt .nx s' ∧ I s' | some v => ∃ s', evSs body F s1 = rt (.ret v o) s' ∧ I s') :
    match xs.findSome? d with | none => ∃ s', forS t body F xs s = rt .nx s' ∧ I s' | some v => ∃ s', forS t body F xs s = rt (.ret v o) s' ∧ I s' :=
  forL_find I o d h0 fun x hx s hi => by
    obtain ⟨s1, e1, h⟩ := hs x hx s hi
    cases hd : d x with
    | none =>
      rw [hd] at h
      obtain ⟨s', e2, h⟩ := h
      exact ⟨s', by rw [e1]; exact e2, h⟩
    | some v =>
      rw [hd] at h
      obtain ⟨s', e2, h⟩ := h
      exact ⟨s', by rw [e1]; exact e2, h⟩
/-- a block that runs on, or returns -/
def EndsW {β : Type} (m : Rs Fl) (o : Option β) (e : β → PV) (fl : Bool) (I : Sg → Prop) : Prop := match o with
  | none => ∃ s', m = rt .nx s' ∧ I s'
  | some h => ∃ s', m = rt (.ret (e h) fl) s' ∧ I s'
theorem EndsW.imp {β : Type} {m : Rs Fl} {o : Option β} {e : β → PV} {fl : Bool} {I J : Sg → Prop} (h : EndsW m o e fl I) (w : ∀ s, I s → J s) : EndsW m o e fl J := by
  cases o with
  | none => obtain ⟨s', h1, h2⟩ := h; exact ⟨s', h1, w _ h2⟩
  | some y => obtain ⟨s', h1, h2⟩ := h; exact ⟨s', h1, w _ h2⟩
theorem EndsW.one {β : Type} {a : XS} {F : Fn} {s : Sg} {o : Option β} {e : β → PV} {fl : Bool} {I : Sg → Prop} (h : EndsW (evS a F s) o e fl I) : EndsW (evSs (.cons a .nil) F s) o e fl I := by
  cases o with
  | none => obtain ⟨s', h1, h2⟩ := h; exact ⟨s', st_nx h1 rfl, h2⟩
  | some y => obtain ⟨s', h1, h2⟩ := h; exact ⟨s', st_ret h1, h2⟩
theorem EndsW.rng2 {β : Type} {t : XT} {a b : XE} {body : XSs} {F : Fn} {s : Sg} {lo hi : Int} {o : Option β} {e : β → PV} {fl : Bool} {I : Sg → Prop} (hv : evI (.rng2 a b) F s = rt (rangeP lo hi) s) (h : EndsW (forS t body F (rangeP lo hi) s) o e fl I) : EndsW (evS (.for_ t (.rng2 a b) body) F s) o e fl I := by
  rw [evS_for, hv]; exact h
theorem EndsW.rng1 {β : Type} {t : XT} {a : XE} {body : XSs} {F : Fn} {s : Sg} {hi : Int} {o : Option β} {e : β → PV} {fl : Bool} {I : Sg → Prop} (hv : evI (.rng1 a) F s = rt (rangeP 0 hi) s) (h : EndsW (forS t body F (rangeP 0 hi) s) o e fl I) : EndsW (evS (.for_ t (.rng1 a) body) F s) o e fl I := by
  rw [evS_for, hv]; exact h
theorem forS_ends {β : Type} {t : XT} {body : XSs} {F : Fn} {lo hi : Int} {s : Sg} (I : Sg → Prop) (fl : Bool) (e : β → PV) (f : Int → Option β) (h0 : I s)
    (hs : ∀ i, lo ≤ i → i < hi → ∀ s, I s → ∃ s1, bindT t (.int i) s = some s1 ∧ EndsW (evSs body F s1) (f i) e fl I) : EndsW (forS t body F (rangeP lo hi) s) ((rangeP lo hi).findSome? (onI f)) e fl I := by
  have h := forS_find (t := t) (body := body) (F := F) (xs := rangeP lo hi) I fl (fun x => (onI f x).map e) h0 (fun x hx s hi => by
    obtain ⟨i, i0, i1, rfl⟩ := mem_rangeP.mp hx
    obtain ⟨s1, e1, h1⟩ := hs i i0 i1 s hi
    refine ⟨s1, e1, ?_⟩
    show match (f i).map e with | none => _ | some v => _
    cases hf : f i with
    | none => rw [hf] at h1; exact h1
    | some y => rw [hf] at h1; exact h1)
  rw [find_map] at h
  cases ho : (rangeP lo hi).findSome? (onI f) with
  | none => rw [ho] at h; exact h
  | some y => rw [ho] at h; exact h
end Lk

namespace Lk
open PySem L2
/-! ### strict orders -/
theorem ltL_irr : ∀ {a : List Nat}, ltL a a = false
  | [] => rfl
  | x :: r => by unfold ltL; simp [ltL_irr (a := r)]
theorem ltL_trans : ∀ {a b c : List Nat}, ltL a b = true → ltL b c = true → ltL a c = true
  | _, _, [], _, h => by unfold ltL at h; cases h
  | a, [], z :: zs, h, _ => by unfold ltL at h; cases h
  | [], y :: ys, z :: zs, _, _ => rfl
  | x :: xs, y :: ys, z :: zs, h1, h2 => by
    unfold ltL at h1 h2 ⊢
    by_cases e1 : x < y
    · by_cases e2 : y < z
      · rw [if_pos (by omega)]
      · rw [if_neg e2] at h2
        by_cases e3 : y = z
        · subst e3; rw [if_pos e1]
        · rw [if_neg e3] at h2; cases h2
    · rw [if_neg e1] at h1
      by_cases e2 : x = y
      · subst e2
        rw [if_pos rfl] at h1
        by_cases e3 : x < z
        · rw [if_pos e3]
        · rw [if_neg e3] at h2 ⊢
          by_cases e4 : x = z
          · subst e4
            rw [if_pos rfl] at h2 ⊢
            exact ltL_trans h1 h2
          · rw [if_neg e4] at h2; cases h2
      · rw [if_neg e2] at h1; cases h1
theorem ltL_tri : ∀ {a b : List Nat}, a ≠ b → ltL a b = false → ltL b a = true
  | [], [], h, _ => absurd rfl h
  | [], y :: ys, _, h => by unfold ltL at h; cases h
  | x :: xs, [], _, _ => rfl
  | x :: xs, y :: ys, h, h1 => by
    unfold ltL at h1 ⊢
    by_cases e1 : x < y
    · rw [if_pos e1] at h1; cases h1
    · rw [if_neg e1] at h1
      by_cases e2 : x = y
      · subst e2
        rw [if_pos rfl] at h1
        rw [if_neg (by omega), if_pos rfl]
        exact ltL_tri (fun e => h (by rw [e])) h1
      · rw [if_pos (by omega)]
abbrev AscS (l : List (List Nat)) : Prop := l.Pairwise fun a b => ltL a b = true
abbrev AscI (l : List Int) : Prop := l.Pairwise fun a b => a < b
theorem asc_unique {α : Type} {lt : α → α → Prop} (irr : ∀ a, ¬ lt a a) (tr : ∀ a b c, lt a b → lt b c → lt a c) : ∀ {l m : List α}, l.Perm m → l.Pairwise lt → m.Pairwise lt → l = m
  | [], m, h, _, _ => (List.Perm.eq_nil h.symm).symm
  | a :: l, [], h, _, _ => absurd h.length_eq (by simp)
  | a :: l, b :: m, h, h1, h2 => by
    have ha : a ∈ b :: m := h.subset List.mem_cons_self
    have hb : b ∈ a :: l := h.symm.subset List.mem_cons_self
    have e : a = b := by
      rcases List.mem_cons.mp ha with e | ha
      · exact e
      · rcases List.mem_cons.mp hb with e | hb
        · exact e.symm
        · exact absurd (tr _ _ _ ((List.pairwise_cons.mp h1).1 b hb) ((List.pairwise_cons.mp h2).1 a ha)) (irr a)
    subst e
    rw [asc_unique irr tr (List.Perm.cons_inv h) (List.pairwise_cons.mp h1).2 (List.pairwise_cons.mp h2).2]
theorem insS_asc {x : List Nat} : ∀ {l : List (List Nat)}, AscS l → x ∉ l → AscS (insS x l)
  | [], _, _ => List.pairwise_singleton _ _
  | y :: r, h, hx => by
    unfold insS
    obtain ⟨h1, h2⟩ := List.pairwise_cons.mp h
    split
    · rename_i hl
      refine List.pairwise_cons.mpr ⟨fun z hz => ?_, insS_asc h2 fun hm => hx (List.mem_cons_of_mem _ hm)⟩
      rcases List.mem_cons.mp ((insS_perm x r).subset hz) with e | hz
      · subst e; exact hl
      · exact h1 z hz
    · rename_i hl
      have hxy : ltL x y = true := ltL_tri (fun e => hx (by rw [e]; exact List.mem_cons_self)) (by simpa using hl)
      refine List.pairwise_cons.mpr ⟨fun z hz => ?_, h⟩
      rcases List.mem_cons.mp hz with e | hz
      · subst e; exact hxy
      · exact ltL_trans hxy (h1 z hz)
theorem sortS_asc : ∀ {l : List (List Nat)}, l.Nodup → AscS (sortS l)
  | [], _ => List.Pairwise.nil
  | x :: r, h => by
    obtain ⟨h1, h2⟩ := List.nodup_cons.mp h
    exact insS_asc (sortS_asc h2) fun hm => h1 ((sortS_perm r).subset hm)
theorem ascS_nodup {l : List (List Nat)} (h : AscS l) : l.Nodup := h.imp fun {a b} hab e => by subst e; rw [ltL_irr] at hab; cases hab
theorem sortS_of_perm {l m : List (List Nat)} (h : l.Perm m) (hm : AscS m) : sortS l = m :=
  asc_unique (lt := fun a b => ltL a b = true) (fun a q => by rw [ltL_irr] at q; cases q) (fun _ _ _ => ltL_trans) ((sortS_perm l).trans h) (sortS_asc (h.nodup_iff.mpr (ascS_nodup hm))) hm
theorem insI_asc {x : Int} : ∀ {l : List Int}, AscI l → x ∉ l → AscI (insI x l)
  | [], _, _ => List.pairwise_singleton _ _
  | y :: r, h, hx => by
    unfold insI
    obtain ⟨h1, h2⟩ := List.pairwise_cons.mp h
    have hne : x ≠ y := fun e => hx (by rw [e]; exact List.mem_cons_self)
    split
    · refine List.pairwise_cons.mpr ⟨fun z hz => ?_, h⟩
      rcases List.mem_cons.mp hz with e | hz
      · subst e; omega
      · have := h1 z hz; omega
    · refine List.pairwise_cons.mpr ⟨fun z hz => ?_, insI_asc h2 fun hm => hx (List.mem_cons_of_mem _ hm)⟩
      rcases List.mem_cons.mp ((insI_perm x r).subset hz) with e | hz
      · subst e; omega
      · exact h1 z hz
theorem sortI_asc : ∀ {l : List Int}, l.Nodup → AscI (sortI l)
  | [], _ => List.Pairwise.nil
  | x :: r, h => by
    obtain ⟨h1, h2⟩ := List.nodup_cons.mp h
    exact insI_asc (sortI_asc h2) fun hm => h1 ((sortI_perm r).subset hm)
theorem ascI_nodup {l : List Int} (h : AscI l) : l.Nodup := h.imp fun {a b} hab e => by subst e; omega
/-! ### a dict as a set -/
instance decDK (k : DKey) (ks : List DKey) : Decidable (k ∈ ks) := decidable_of_iff (ks.any (fun e => decide (e = k)) = true) (by
  rw [List.any_eq_true]
  exact ⟨fun ⟨x, hx, e⟩ => of_decide_eq_true e ▸ hx, fun h => ⟨k, h, decide_eq_true rfl⟩⟩)
def dset (ks : List DKey) : List (DKey × PV) := ks.map fun k => (k, PV.bl true)
def addK (ks : List DKey) (k : DKey) : List DKey := if k ∈ ks then ks else ks ++ [k]
theorem dset_len {ks : List DKey} : (dset ks).length = ks.length := by simp [dset]
theorem dset_any {ks : List DKey} {k : DKey} : ((dset ks).any fun e => decide (e.1 = k)) = decide (k ∈ ks) := by
  unfold dset
  rw [List.any_map, Bool.eq_iff_iff, List.any_eq_true, decide_eq_true_eq]
  constructor
  · rintro ⟨x, hx, e⟩
    have : x = k := by simpa using e
    subst this; exact hx
  · intro h; exact ⟨k, h, by simp⟩
theorem dput_dset {ks : List DKey} {k : DKey} : dput (dset ks) k (.bl true) = dset (addK ks k) := by
  unfold dput addK
  rw [dset_any]
  by_cases h : k ∈ ks
  · rw [if_pos (by simpa using h), if_pos h]
    unfold dset
    rw [List.map_map]
    refine List.map_congr_left fun x _ => ?_
    show (if x = k then ((x, PV.bl true) : DKey × PV) else (x, PV.bl true)) = _
    split <;> rfl
  · rw [if_neg (by simpa using h), if_neg h]
    unfold dset
    rw [List.map_append]; rfl
theorem dget_dset {ks : List DKey} {k : DKey} : dget (dset ks) k = if k ∈ ks then some (.bl true) else none := by
  unfold dget dset
  induction ks with
  | nil => rfl
  | cons x r ih =>
    rw [List.map_cons, List.find?_cons]
    by_cases e : x = k
    · subst e; simp
    · have e' : decide (x = k) = false := by simpa using e
      simp only [e']
      rw [ih]
      have : (k ∈ x :: r) ↔ k ∈ r := by rw [List.mem_cons]; exact ⟨fun h => h.resolve_left fun q => e q.symm, .inr⟩
      simp only [this]
theorem addK_nodup {ks : List DKey} {k : DKey} (h : ks.Nodup) : (addK ks k).Nodup := by
  unfold addK
  split
  · exact h
  · rename_i hk
    rw [List.nodup_append]
    exact ⟨h, by simp, fun a ha b hb e => by rw [List.mem_singleton] at hb; subst hb; exact hk (e ▸ ha)⟩
theorem mem_addK {ks : List DKey} {k x : DKey} : x ∈ addK ks k ↔ x ∈ ks ∨ x = k := by
  unfold addK
  split
  · rename_i h; exact ⟨.inl, fun q => q.elim id fun e => e ▸ h⟩
  · simp
theorem addK_len {ks : List DKey} {k : DKey} : (addK ks k).length ≤ ks.length + 1 := by
  unfold addK
  split
  · omega
  · simp
abbrev kI (i : Int) : DKey := .inl (.inl i)
abbrev kS (s : List Nat) : DKey := .inl (.inr ⟨s.toArray⟩)
theorem kS_inj {a b : List Nat} (h : kS a = kS b) : a = b := by
  injection h with h
  injection h with h
  injection h with h
  simpa using h
theorem kI_inj {a b : Int} (h : kI a = kI b) : a = b := by
  injection h with h
  injection h
def addI (l : List Int) (i : Int) : List Int := if i ∈ l then l else l ++ [i]
theorem addK_I {l : List Int} {i : Int} : addK (l.map kI) (kI i) = (addI l i).map kI := by
  unfold addK addI
  have : kI i ∈ l.map kI ↔ i ∈ l := by
    rw [List.mem_map]
    exact ⟨fun ⟨x, hx, e⟩ => kI_inj e ▸ hx, fun h => ⟨i, h, rfl⟩⟩
  simp only [this]
  split <;> simp
theorem addI_nodup {l : List Int} {i : Int} (h : l.Nodup) : (addI l i).Nodup := by
  unfold addI
  split
  · exact h
  · rename_i hk
    rw [List.nodup_append]
    exact ⟨h, by simp, fun a ha b hb e => by rw [List.mem_singleton] at hb; subst hb; exact hk (e ▸ ha)⟩
theorem mem_addI {l : List Int} {i x : Int} : x ∈ addI l i ↔ x ∈ l ∨ x = i := by
  unfold addI
  split
  · rename_i h; exact ⟨.inl, fun q => q.elim id fun e => e ▸ h⟩
  · simp
theorem addI_len {l : List Int} {i : Int} : (addI l i).length ≤ l.length + 1 := by
  unfold addI
  split
  · omega
  · simp
theorem addI_ge {l : List Int} {i : Int} : l.length ≤ (addI l i).length := by
  unfold addI
  split
  · omega
  · simp
/-- a set of ints, kept as a dict -/
def dI (l : List Int) : PV := .dic false (dset (l.map kI))
theorem setP_dI {l : List Int} {i : Int} (h : l.length < SL) : setP (dI l) (.int i) (.bl true) = some (dI (addI l i)) := by
  show (if dok false (dset (l.map kI)) (kI i) then some (PV.dic false (dput (dset (l.map kI)) (kI i) (.bl true))) else none) = _
  have : dok false (dset (l.map kI)) (kI i) = true := by
    unfold dok
    rw [dset_len, List.length_map]
    simp [kindOf, h]
  rw [if_pos this, dput_dset, addK_I]; rfl
theorem in_dI {l : List Int} {i : Int} : inP (.int i) (dI l) = some (decide (i ∈ l)) := by
  show (if kindOf (kI i) == false then some (dget (dset (l.map kI)) (kI i)).isSome else none) = _
  rw [if_pos (by rfl), dget_dset]
  have : kI i ∈ l.map kI ↔ i ∈ l := by
    rw [List.mem_map]
    exact ⟨fun ⟨x, hx, e⟩ => kI_inj e ▸ hx, fun h => ⟨i, h, rfl⟩⟩
  simp only [this]
  by_cases h : i ∈ l <;> simp [h]
theorem list_dI {l : List Int} : primP .list [dI l] = some (.lst (l.map .int), true) := by
  show some (PV.lst ((dset (l.map kI)).map fun e => pvD e.1), true) = _
  congr 3
  unfold dset
  rw [List.map_map, List.map_map]; rfl
theorem compD_strs {own : List Nat} {f : PV → Sg → Rs (Option (PV × PV))} {env : List Cell} {mu : List PV} (hno : noOwn env own = true) : ∀ {rs : List (List Nat)} (ks : List DKey), (∀ x ∈ rs.map PV.str, ∃ env', f x ⟨wipeE env own, mu⟩ = rt (some (x, .bl true)) ⟨env', mu⟩ ∧ backE env env' own = env) →
    ks.length + rs.length ≤ SL → compD own f (rs.map PV.str) (dset ks) ⟨env, mu⟩ = rt (dset ((rs.map kS).foldl addK ks)) ⟨env, mu⟩
  | [], ks, _, _ => rfl
  | r :: rs, ks, hf, hl => by
    obtain ⟨env', h1, h2⟩ := hf (.str r) List.mem_cons_self
    simp only [List.length_cons] at hl
    rw [List.map_cons]
    unfold compD
    rw [if_pos hno, h1]
    show (if (dset ks).length < SL then compD own f (rs.map PV.str) (dput (dset ks) (kS r) (.bl true)) ⟨backE env env' own, mu⟩ else none) = _
    rw [dset_len, if_pos (by omega), h2, dput_dset]
    exact compD_strs hno (rs := rs) (addK ks (kS r)) (fun x hx => hf x (List.mem_cons_of_mem _ hx)) (by have := @addK_len ks (kS r); omega)
theorem foldl_addK {l : List DKey} : ∀ {acc : List DKey}, (acc ++ l).Nodup → l.foldl addK acc = acc ++ l := by
  induction l with
  | nil => intro acc _; simp
  | cons x r ih =>
    intro acc h
    have hx : x ∉ acc := fun hm => by
      rw [List.nodup_append] at h
      exact h.2.2 x hm x List.mem_cons_self rfl
    rw [List.foldl_cons, show addK acc x = acc ++ [x] from if_neg hx, ih (by simpa using h)]
    simp
theorem nodup_kS {l : List (List Nat)} (h : l.Nodup) : (l.map kS).Nodup := by
  rw [List.nodup_iff_pairwise_ne, List.pairwise_map]
  exact (List.nodup_iff_pairwise_ne.mp h).imp fun hab e => hab (kS_inj e)
/-- a set of strings, kept as a dict -/
def dS (l : List (List Nat)) : PV := .dic false (dset (l.map kS))
theorem in_dS {l : List (List Nat)} {r : List Nat} : inP (.str r) (dS l) = some (decide (r ∈ l)) := by
  show (if kindOf (kS r) == false then some (dget (dset (l.map kS)) (kS r)).isSome else none) = _
  rw [if_pos (by rfl), dget_dset]
  have : kS r ∈ l.map kS ↔ r ∈ l := by
    rw [List.mem_map]
    exact ⟨fun ⟨x, hx, e⟩ => kS_inj e ▸ hx, fun h => ⟨r, h, rfl⟩⟩
  simp only [this]
  by_cases h : r ∈ l <;> simp [h]
end Lk

namespace Lk
theorem cm_any {α : Type} {own : List Nat} {t : XT} {c e : XE} {F : Fn} {env : List Cell} {mu : List PV} {emb : α → PV} {l : List α} (out : α → Option PV) (env' : α → List Cell) (h : ∀ x ∈ l, turnS F t c e (emb x) ⟨wipeE env own, mu⟩ = rt (out x) ⟨env' x, mu⟩ ∧ backE env (env' x) own = env)
    (hno : noOwn env own = true) (hl : l.length ≤ SL) : compS own t c e F (l.map emb) ⟨env, mu⟩ = rt (l.filterMap out) ⟨env, mu⟩ := by
  have hh := compL_pure (own := own) (f := turnS F t c e) (env := env) (mu := mu) (xs := l.map emb)
  unfold compS
  clear hh
  have : ∀ (l : List α) (acc : List PV), (∀ x ∈ l, turnS F t c e (emb x) ⟨wipeE env own, mu⟩ = rt (out x) ⟨env' x, mu⟩ ∧ backE env (env' x) own = env) → acc.length + l.length ≤ SL →
      compL own (turnS F t c e) (l.map emb) acc ⟨env, mu⟩ = rt (acc ++ l.filterMap out) ⟨env, mu⟩ := by
    intro l
    induction l with
    | nil => intro acc _ _; simp [compL]
    | cons x r ih =>
      intro acc hf hl
      obtain ⟨h1, h2⟩ := hf x List.mem_cons_self
      simp only [List.length_cons] at hl
      rw [List.map_cons]
      unfold compL
      rw [if_pos hno, h1]
      cases hg : out x with
      | none =>
        show compL own (turnS F t c e) (r.map emb) acc ⟨backE env (env' x) own, mu⟩ = _
        rw [h2, ih acc (fun y hy => hf y (List.mem_cons_of_mem _ hy)) (by omega)]
        simp [hg]
      | some y =>
        show (if acc.length < SL then compL own (turnS F t c e) (r.map emb) (acc ++ [y]) ⟨backE env (env' x) own, mu⟩ else none) = _
        rw [if_pos (by omega), h2, ih (acc ++ [y]) (fun y hy => hf y (List.mem_cons_of_mem _ hy)) (by simp; omega)]
        simp [hg]
  exact (this l [] h (by simpa using hl)).trans (by simp)
theorem cm_map {α : Type} {own : List Nat} {t : XT} {c e : XE} {F : Fn} {env : List Cell} {mu : List PV} {emb : α → PV} {l : List α} {out : α → PV} {env' : α → List Cell} (h : ∀ x ∈ l, turnS F t c e (emb x) ⟨wipeE env own, mu⟩ = rt (some (out x)) ⟨env' x, mu⟩ ∧ backE env (env' x) own = env)
    (hno : noOwn env own = true) (hl : l.length ≤ SL) : compS own t c e F (l.map emb) ⟨env, mu⟩ = rt (l.map out) ⟨env, mu⟩ := by
  rw [cm_any (fun x => some (out x)) env' h hno hl, filterMap_some_map]
theorem cm_fil {α : Type} {own : List Nat} {t : XT} {c e : XE} {F : Fn} {env : List Cell} {mu : List PV} {emb : α → PV} {l : List α} (P : α → Bool) {out : α → PV} {env' : α → List Cell} {env'' : α → List Cell}
    (h : ∀ x ∈ l, (P x = true → turnS F t c e (emb x) ⟨wipeE env own, mu⟩ = rt (some (out x)) ⟨env' x, mu⟩ ∧ backE env (env' x) own = env) ∧ (P x = false → turnS F t c e (emb x) ⟨wipeE env own, mu⟩ = rt none ⟨env'' x, mu⟩ ∧ backE env (env'' x) own = env))
    (hno : noOwn env own = true) (hl : l.length ≤ SL) : compS own t c e F (l.map emb) ⟨env, mu⟩ = rt ((l.filter P).map out) ⟨env, mu⟩ := by
  rw [cm_any (fun x => if P x = true then some (out x) else none) (fun x => if P x = true then env' x else env'' x) (fun x hx => ?_) hno hl, fm_filter P out (fun x => rfl)]
  obtain ⟨h1, h2⟩ := h x hx
  by_cases hp : P x = true
  · rw [if_pos hp, if_pos hp]; exact h1 hp
  · rw [if_neg hp, if_neg hp]; exact h2 (by simpa using hp)
/-- a loop over what l shows -/
theorem for_inv {α : Type} {t : XT} {body : XSs} {F : Fn} {emb : α → PV} {l : List α} {s : Sg} (I : Nat → Sg → Prop) (h0 : I 0 s) (hs : ∀ i x s, l[i]? = some x → I i s → ∃ s1 s', bindT t (emb x) s = some s1 ∧ evSs body F s1 = rt .nx s' ∧ I (i + 1) s') : ∃ s', forS t body F (l.map emb) s = rt .nx s' ∧ I l.length s' := by
  have := forS_nx (t := t) (body := body) (F := F) (xs := l.map emb) I h0 (fun i x s hx hi => by
    rw [List.getElem?_map] at hx
    cases hl : l[i]? with
    | none => rw [hl] at hx; cases hx
    | some y =>
      rw [hl] at hx
      cases hx
      exact hs i y s hl hi)
  rwa [List.length_map] at this
/-- a loop: S tells the state by what is reckoned (a) and what is left about (g) -/
theorem for_st {α A G : Type} {t : XT} {body : XSs} {F : Fn} {emb : α → PV} {l : List α} (S : A → G → Sg) (v : Nat → A) (g0 : G) (hs : ∀ i x g, l[i]? = some x → ∃ s1 g', bindT t (emb x) (S (v i) g) = some s1 ∧ evSs body F s1 = rt .nx (S (v (i + 1)) g')) : ∃ g, forS t body F (l.map emb) (S (v 0) g0) = rt .nx (S (v l.length) g) := by
  obtain ⟨s', e, g, rfl⟩ := for_inv (t := t) (body := body) (F := F) (emb := emb) (l := l) (s := S (v 0) g0) (fun i s => ∃ g, s = S (v i) g) ⟨g0, rfl⟩ (fun i x s hx hi => by
    obtain ⟨g, rfl⟩ := hi
    obtain ⟨s1, g', e1, e2⟩ := hs i x g hx
    exact ⟨s1, _, e1, e2, g', rfl⟩)
  exact ⟨g, e⟩
/-! ### both ways -/
def iteB {α : Type} (x : Bool) (a b : α) : α := match x with | true => a | false => b
theorem iteB_t {α : Type} {a b : α} : iteB true a b = a := Eq.trans (Eq.refl _) (Eq.refl _)
theorem iteB_f {α : Type} {a b : α} : iteB false a b = b := Eq.trans (Eq.refl _) (Eq.refl _)
def iteK {α : Type} (x : Bool) (a b : α) (_ : Tg (a, b)) : α := iteB x a b
theorem iteK_t {α : Type} {a b : α} {t : Tg (a, b)} : iteK true a b t = a := Eq.trans (Eq.refl _) (Eq.refl _)
theorem iteK_f {α : Type} {a b : α} {t : Tg (a, b)} : iteK false a b t = b := Eq.trans (Eq.refl _) (Eq.refl _)
theorem iteK_o {α : Type} {x : Bool} {a b : α} {t : Tg (a, b)} : iteK x a b t = iteB x a b := Eq.trans (Eq.refl _) (Eq.refl _)
theorem evR_tand {a b : XE} {F : Fn} {s : Sg} : evR (.tand a b) F s = bd (tst a (evR a F s) s) fun t s => iteB t (bd (tst b (evR b F s) s) fun t s => rt (.bl t, false) s) (rt (.bl false, false) s) := Eq.trans (Eq.refl _) (Eq.refl _)
theorem evR_tor {a b : XE} {F : Fn} {s : Sg} : evR (.tor a b) F s = bd (tst a (evR a F s) s) fun t s => iteB t (rt (.bl true, false) s) (bd (tst b (evR b F s) s) fun t s => rt (.bl t, false) s) := Eq.trans (Eq.refl _) (Eq.refl _)
theorem evR_and {a b : XE} {F : Fn} {s : Sg} : evR (.and a b) F s = bd (fz (evR a F s)) fun v s => op1 (truthy v) fun t => iteB t (bd (fz (evR b F s)) fun v s => rt (v, false) s) (rt (v, false) s) := Eq.trans (Eq.refl _) (Eq.refl _)
theorem evR_or {a b : XE} {F : Fn} {s : Sg} : evR (.or a b) F s = bd (fz (evR a F s)) fun v s => op1 (truthy v) fun t => iteB t (rt (v, false) s) (bd (fz (evR b F s)) fun v s => rt (v, false) s) := by
  have e : ∀ (t : Bool) (x y : Rs (PV × Bool)), (match t with | false => x | true => y) = iteB t y x := fun t x y => by cases t <;> rfl
  show (bd (fz (evR a F s)) fun v s => op1 (truthy v) fun t => match t with | false => bd (fz (evR b F s)) fun v s => rt (v, false) s | true => rt (v, false) s) = _
  simp only [e]
theorem evR_ite {c a b : XE} {F : Fn} {s : Sg} : evR (.ite c a b) F s = bd (tst c (evR c F s) s) fun t s => iteB t (bd (fz (evR a F s)) fun v s => rt (v, false) s) (bd (fz (evR b F s)) fun v s => rt (v, false) s) := Eq.trans (Eq.refl _) (Eq.refl _)
theorem evR_cmp2 {op op' : Cop} {a b c : XE} {F : Fn} {s : Sg} : evR (.cmp2 op op' a b c) F s = bd (plc a (evR a F s) s) fun p s => bd (plc b (evR b F s) s) fun q s =>
    op1 (s.look p) fun x => op1 (s.look q) fun y => op1 (cmpP op x y) fun r => iteB r (bd (plc c (evR c F s) s) fun z s => op1 (s.look q) fun y => op1 (s.look z) fun z => op1 (cmpP op' y z) fun r => rt (.bl r, false) s) (rt (.bl false, false) s) := by
  have e : ∀ (t : Bool) (x y : Rs (PV × Bool)), (match t with | false => x | true => y) = iteB t y x := fun t x y => by cases t <;> rfl
  show (bd (plc a (evR a F s) s) fun p s => bd (plc b (evR b F s) s) fun q s =>
    op1 (s.look p) fun x => op1 (s.look q) fun y => op1 (cmpP op x y) fun r => match r with | false => rt (PV.bl false, false) s | true => (bd (plc c (evR c F s) s) fun z s => op1 (s.look q) fun y => op1 (s.look z) fun z => op1 (cmpP op' y z) fun r => rt (PV.bl r, false) s)) = _
  simp only [e]
theorem evS_ifs {c : XE} {a b : XSs} {F : Fn} {s : Sg} : evS (.ifs c a b) F s = bd (tst c (evR c F s) s) fun t s => iteK t (evSs a F s) (evSs b F s) .mk := Eq.trans (Eq.refl _) (Eq.refl _)
theorem turnS_b {F : Fn} {t : XT} {d e : XE} {x : PV} {s : Sg} : turnS F t d e x s = op1 (bindT t x s) fun s => bd (tst d (evR d F s) s) fun b s => iteB b (bd (fz (evR e F s)) fun v s => rt (some v) s) (rt none s) := Eq.trans (Eq.refl _) (Eq.refl _)
theorem turnD_b {F : Fn} {t : XT} {d ek e : XE} {x : PV} {s : Sg} : turnD F t d ek e x s = op1 (bindT t x s) fun s => bd (tst d (evR d F s) s) fun b s => iteB b (bd (fz (evR ek F s)) fun kv s => bd (fz (evR e F s)) fun v s => rt (some (kv, v)) s) (rt none s) := Eq.trans (Eq.refl _) (Eq.refl _)
theorem iB_and {x y f : Bool} {s : Sg} : iteB x (rt (PV.bl y, f) s) (rt (PV.bl false, f) s) = rt (.bl (x && y), f) s := by cases x <;> rfl
theorem iB_and2 {x y f : Bool} {s : Sg} : iteB x (rt (PV.bl y, f) s) (rt (PV.bl x, f) s) = rt (.bl (x && y), f) s := by cases x <;> rfl
theorem iB_or {x y f : Bool} {s : Sg} : iteB x (rt (PV.bl true, f) s) (rt (PV.bl y, f) s) = rt (.bl (x || y), f) s := by cases x <;> rfl
theorem iB_or2 {x y f : Bool} {s : Sg} : iteB x (rt (PV.bl x, f) s) (rt (PV.bl y, f) s) = rt (.bl (x || y), f) s := by cases x <;> rfl
theorem iB_int {x f : Bool} {i j : Int} {s : Sg} : iteB x (rt (PV.int i, f) s) (rt (PV.int j, f) s) = rt (.int (if x = true then i else j), f) s := by cases x <;> rfl
theorem iB_str {x f : Bool} {i j : List Nat} {s : Sg} : iteB x (rt (PV.str i, f) s) (rt (PV.str j, f) s) = rt (.str (if x = true then i else j), f) s := by cases x <;> rfl
theorem iB_same {α : Type} {x : Bool} {a : α} : iteB x a a = a := by cases x <;> rfl
theorem cm_fi {α : Type} {own : List Nat} {t : XT} {c e : XE} {F : Fn} {env : List Cell} {mu : List PV} {emb : α → PV} {l : List α} {P : α → Bool} {out : α → PV} {env' : α → List Cell}
    (h : ∀ x ∈ l, turnS F t c e (emb x) ⟨wipeE env own, mu⟩ = iteB (P x) (rt (some (out x)) ⟨env' x, mu⟩) (rt none ⟨env' x, mu⟩) ∧ backE env (env' x) own = env)
    (hno : noOwn env own = true) (hl : l.length ≤ SL) : compS own t c e F (l.map emb) ⟨env, mu⟩ = rt ((l.filter P).map out) ⟨env, mu⟩ :=
  cm_fil P (fun x hx => by
    obtain ⟨h1, h2⟩ := h x hx
    exact ⟨fun hp => ⟨by rw [h1, hp]; rfl, h2⟩, fun hp => ⟨by rw [h1, hp]; rfl, h2⟩⟩) hno hl
theorem tup_two {a b : Nat} : inP (.str [a]) (.tup [.str [46], .str [b]]) = some (a == 46 || a == b) := by
  show some (([46] == [a]) || (([b] == [a]) || false)) = _
  congr 1
  have e : ∀ x y : Nat, (([x] : List Nat) == [y]) = (y == x) := fun x y => by
    rw [Bool.eq_iff_iff, beq_iff_eq, beq_iff_eq]
    exact ⟨fun h => by injection h with h; exact h.symm, fun h => by rw [h]⟩
  rw [e, e, Bool.or_false]
theorem str1_eq {a b : Nat} : decide (([a] : List Nat) = [b]) = (a == b) := by
  rw [Bool.eq_iff_iff, decide_eq_true_eq, beq_iff_eq]
  exact ⟨fun h => by injection h, fun h => by rw [h]⟩
theorem ev_fn {nm : String} {np ns : Nat} {b : XSs} {args mu : List PV} (h : args.length = np) : evF (.mk nm np ns 1 b) args mu = fin (evSs b (fun _ _ => none) ⟨entry np ns args, mu⟩) := if_pos h
theorem natc_eq {a b : Nat} : decide ((a : Int) = (b : Int)) = (a == b) := by
  rw [Bool.eq_iff_iff, decide_eq_true_eq, beq_iff_eq]; omega
theorem blsOf_f {α : Type} {f : α → Bool} {l : List α} : blsOf (l.map fun x => PV.bl (f x)) = some (l.map f) := by
  rw [← blsOf_map, List.map_map]; rfl
theorem strsOf_f {α : Type} {f : α → List Nat} {l : List α} : strsOf (l.map fun x => PV.str (f x)) = some (l.map f) := by
  rw [← strsOf_map, List.map_map]; rfl
theorem intsOf_f {α : Type} {f : α → Int} {l : List α} : intsOf (l.map fun x => PV.int (f x)) = some (l.map f) := by
  rw [← intsOf_map, List.map_map]; rfl
theorem rangeP_n {n : Nat} : rangeP 0 n = (List.range n).map fun (i : Nat) => PV.int i := rangeP_0
theorem fin_iB {x : Bool} {a b : Rs Fl} : fin (iteB x a b) = iteB x (fin a) (fin b) := by cases x <;> rfl
theorem iB_res {x f : Bool} {v w : PV} {mu : List PV} : iteB x (some (R.ok (v, f), mu)) (some (R.ok (w, f), mu)) = some (.ok (iteB x v w, f), mu) := by cases x <;> rfl
theorem iB_bl {x y z : Bool} : iteB x (PV.bl y) (PV.bl z) = .bl (iteB x y z) := by cases x <;> rfl
def sg01 (c : Nat) : Bool := c == 48 || c == 49
theorem in01 (c : Nat) : inP (.str [c]) (.ktp [.str [48], .str [49]]) = some (sg01 c) := by
  show some (([48] == [c]) || (([49] == [c]) || false)) = some (c == 48 || c == 49)
  congr 1
  by_cases h : c = 48
  · subst h; rfl
  · by_cases h2 : c = 49
    · subst h2; rfl
    · have e1 : ([48] == [c]) = false := by rw [beq_eq_false_iff_ne]; simp; omega
      have e2 : ([49] == [c]) = false := by rw [beq_eq_false_iff_ne]; simp; omega
      have e3 : (c == 48) = false := by rw [beq_eq_false_iff_ne]; exact h
      have e4 : (c == 49) = false := by rw [beq_eq_false_iff_ne]; exact h2
      rw [e1, e2, e3, e4]; rfl
/-! ### data, compared with itself -/
def dOk (n : Nat) (v : PV) : Prop := isData v = true ∧ depthP v ≤ n
theorem isDataL_iff : ∀ {xs : List PV}, isDataL xs = true ↔ ∀ x ∈ xs, isData x = true
  | [] => by simp [isDataL]
  | x :: r => by
    show (isData x && isDataL r) = true ↔ _
    rw [Bool.and_eq_true, isDataL_iff]
    simp
theorem depthL_le {n : Nat} : ∀ {xs : List PV}, (∀ x ∈ xs, depthP x ≤ n) → depthL xs ≤ n
  | [], _ => Nat.zero_le _
  | x :: r, h => Nat.max_le.mpr ⟨h x List.mem_cons_self, depthL_le fun y hy => h y (List.mem_cons_of_mem _ hy)⟩
theorem dOk_lst {n : Nat} {xs : List PV} (h : ∀ x ∈ xs, dOk n x) : dOk (n + 1) (.lst xs) :=
  ⟨show isDataL xs = true from isDataL_iff.mpr fun x hx => (h x hx).1, show depthL xs + 1 ≤ n + 1 from Nat.succ_le_succ (depthL_le fun x hx => (h x hx).2)⟩
theorem dOk_tup {n : Nat} {xs : List PV} (h : ∀ x ∈ xs, dOk n x) : dOk (n + 1) (.tup xs) := dOk_lst h
theorem dOk_int {n : Nat} {i : Int} : dOk n (.int i) := ⟨rfl, Nat.zero_le _⟩
theorem dOk_bl {n : Nat} {i : Bool} : dOk n (.bl i) := ⟨rfl, Nat.zero_le _⟩
theorem dOk_non {n : Nat} : dOk n .non := ⟨rfl, Nat.zero_le _⟩
theorem dOk_str {n : Nat} {s : List Nat} (h : ∀ c ∈ s, c < 1114112) : dOk n (.str s) := ⟨List.all_eq_true.mpr fun c hc => decide_eq_true (h c hc), Nat.zero_le _⟩
theorem dOk.ok {n : Nat} {v : PV} (h : dOk n v) (hn : n ≤ 60) : dataOk v = true := by
  show (isData v && decide (depthP v ≤ 60)) = true
  rw [h.1, decide_eq_true (Nat.le_trans h.2 hn)]; rfl
mutual
theorem eqP_rfl : ∀ {v : PV}, isData v = true → eqP v v = true
  | .non, _ => rfl
  | .bl b, _ => beq_self_eq_true b
  | .int i, _ => beq_self_eq_true i
  | .str s, _ => beq_self_eq_true s
  | .tup xs, h => eqPs_rfl (xs := xs) h
  | .lst xs, h => eqPs_rfl (xs := xs) h
  | .dic _ _, h => by cases h
  | .ins _ _, h => by cases h
  | .ref _, h => by cases h
  | .scr _, h => by cases h
  | .ktp _, h => by cases h
theorem eqPs_rfl : ∀ {xs : List PV}, isDataL xs = true → eqPs xs xs = true
  | [], _ => rfl
  | x :: r, h => by
    have h : (isData x && isDataL r) = true := h
    rw [Bool.and_eq_true] at h
    show (eqP x x && eqPs r r) = true
    rw [eqP_rfl h.1, eqPs_rfl h.2]; rfl
end
theorem cmp_rE {n : Nat} {v : PV} (h : dOk n v) (hn : n ≤ 60) : cmpP .eq v v = some true := by
  show (if scalP v v || eqOk v v then some (eqP v v) else none) = _
  unfold eqOk
  rw [h.ok hn, eqP_rfl h.1, if_pos (by simp)]
theorem cmp_rN {n : Nat} {v : PV} (h : dOk n v) (hn : n ≤ 60) : cmpP .ne v v = some false := by
  show (if scalP v v || eqOk v v then some (!eqP v v) else none) = _
  unfold eqOk
  rw [h.ok hn, eqP_rfl h.1, if_pos (by simp)]; rfl
theorem dOk_strs {l : List (List Nat)} (h : ∀ r ∈ l, ∀ c ∈ r, c < 1114112) : dOk 1 (.lst (l.map .str)) ∧ dOk 1 (.tup (l.map .str)) := by
  have : ∀ x ∈ l.map PV.str, dOk 0 x := fun x hx => by
    obtain ⟨r, hr, rfl⟩ := List.mem_map.mp hx
    exact dOk_str (h r hr)
  exact ⟨dOk_lst this, dOk_tup this⟩
theorem ix_tup0 {a0 : PV} {r : List PV} : idxP (.tup (a0 :: r)) (.int 0) = some a0 := by
  show (ixN' (a0 :: r).length 0).bind ((a0 :: r)[·]?) = _
  rw [show ((0 : Int)) = ((0 : Nat) : Int) from rfl, ixN_nat (by simp only [List.length_cons]; omega)]; rfl
theorem ix_tup1 {a0 a1 : PV} {r : List PV} : idxP (.tup (a0 :: a1 :: r)) (.int 1) = some a1 := by
  show (ixN' (a0 :: a1 :: r).length 1).bind ((a0 :: a1 :: r)[·]?) = _
  rw [show ((1 : Int)) = ((1 : Nat) : Int) from rfl, ixN_nat (by simp only [List.length_cons]; omega)]; rfl
theorem ix_tup2 {a0 a1 a2 : PV} {r : List PV} : idxP (.tup (a0 :: a1 :: a2 :: r)) (.int 2) = some a2 := by
  show (ixN' (a0 :: a1 :: a2 :: r).length 2).bind ((a0 :: a1 :: a2 :: r)[·]?) = _
  rw [show ((2 : Int)) = ((2 : Nat) : Int) from rfl, ixN_nat (by simp only [List.length_cons]; omega)]; rfl
theorem ix_tup3 {a0 a1 a2 a3 : PV} {r : List PV} : idxP (.tup (a0 :: a1 :: a2 :: a3 :: r)) (.int 3) = some a3 := by
  show (ixN' (a0 :: a1 :: a2 :: a3 :: r).length 3).bind ((a0 :: a1 :: a2 :: a3 :: r)[·]?) = _
  rw [show ((3 : Int)) = ((3 : Nat) : Int) from rfl, ixN_nat (by simp only [List.length_cons]; omega)]; rfl
theorem ix_lst0 {a0 : PV} {r : List PV} : idxP (.lst (a0 :: r)) (.int 0) = some a0 := by
  show (ixN' (a0 :: r).length 0).bind ((a0 :: r)[·]?) = _
  rw [show ((0 : Int)) = ((0 : Nat) : Int) from rfl, ixN_nat (by simp only [List.length_cons]; omega)]; rfl
theorem ix_lst1 {a0 a1 : PV} {r : List PV} : idxP (.lst (a0 :: a1 :: r)) (.int 1) = some a1 := by
  show (ixN' (a0 :: a1 :: r).length 1).bind ((a0 :: a1 :: r)[·]?) = _
  rw [show ((1 : Int)) = ((1 : Nat) : Int) from rfl, ixN_nat (by simp only [List.length_cons]; omega)]; rfl
theorem ix_lst2 {a0 a1 a2 : PV} {r : List PV} : idxP (.lst (a0 :: a1 :: a2 :: r)) (.int 2) = some a2 := by
  show (ixN' (a0 :: a1 :: a2 :: r).length 2).bind ((a0 :: a1 :: a2 :: r)[·]?) = _
  rw [show ((2 : Int)) = ((2 : Nat) : Int) from rfl, ixN_nat (by simp only [List.length_cons]; omega)]; rfl
theorem ix_lst3 {a0 a1 a2 a3 : PV} {r : List PV} : idxP (.lst (a0 :: a1 :: a2 :: a3 :: r)) (.int 3) = some a3 := by
  show (ixN' (a0 :: a1 :: a2 :: a3 :: r).length 3).bind ((a0 :: a1 :: a2 :: a3 :: r)[·]?) = _
  rw [show ((3 : Int)) = ((3 : Nat) : Int) from rfl, ixN_nat (by simp only [List.length_cons]; omega)]; rfl
theorem range_fil {P : Nat → Bool} {n : Nat} : (List.range (n + 1)).filter P = (List.range n).filter P ++ if P n = true then [n] else [] := by
  rw [List.range_succ, List.filter_append]
  congr 1
  rw [List.filter_cons]
  split <;> simp_all
theorem idxL {α : Type} {f : α → PV} {l : List α} {i : Nat} (h : i < l.length) : idxP (.lst (l.map f)) (.int i) = some (f l[i]) := by
  show (ixN' (l.map f).length (i : Int)).bind ((l.map f)[·]?) = _
  rw [List.length_map, ixN_nat h, Option.bind_some, List.getElem?_map, List.getElem?_eq_getElem h]; rfl
theorem idxT {α : Type} {f : α → PV} {l : List α} {i : Nat} (h : i < l.length) : idxP (.tup (l.map f)) (.int i) = some (f l[i]) := idxL h
theorem idxL0 {α : Type} {f : α → PV} {l : List α} {d : α} (h : l ≠ []) : idxP (.lst (l.map f)) (.int 0) = some (f (l.getD 0 d)) := by
  cases l with
  | nil => exact absurd rfl h
  | cons a r => exact ix_lst0
theorem idxT0 {α : Type} {f : α → PV} {l : List α} {d : α} (h : l ≠ []) : idxP (.tup (l.map f)) (.int 0) = some (f (l.getD 0 d)) := idxL0 h
theorem getD0_mem {α : Type} {l : List α} {d : α} (h : l ≠ []) : l.getD 0 d ∈ l := by
  cases l with
  | nil => exact absurd rfl h
  | cons a r => exact List.mem_cons_self
theorem range_at {n i a : Nat} (h : (List.range n)[i]? = some a) : i < n ∧ a = i := by
  obtain ⟨h1, h2⟩ := List.getElem?_eq_some_iff.mp h
  rw [List.length_range] at h1
  rw [List.getElem_range] at h2
  exact ⟨h1, h2.symm⟩
theorem p_all_f {α : Type} {f : α → Bool} {l : List α} : primP .all [.lst (l.map fun x => .bl (f x))] = some (.bl (l.all f), false) := by
  rw [p_all_l, blsOf_f, Option.map_some, List.all_map]; rfl
theorem p_any_f {α : Type} {f : α → Bool} {l : List α} : primP .any [.lst (l.map fun x => .bl (f x))] = some (.bl (l.any f), false) := by
  rw [p_any_l, blsOf_f, Option.map_some, List.any_map]; rfl
theorem forS_cons {t : XT} {body : XSs} {F : Fn} {x : PV} {r : List PV} {s : Sg} : forS t body F (x :: r) s = bd (op1 (bindT t x s) fun s => evSs body F s) fun fl s' => match fl with
    | .nx => forS t body F r s'
    | .ct => forS t body F r s'
    | .brk => rt .nx s'
    | .ret v o => rt (.ret v o) s' := Eq.trans (Eq.refl _) (Eq.refl _)
theorem forS_nil {t : XT} {body : XSs} {F : Fn} {s : Sg} : forS t body F [] s = rt .nx s := Eq.trans (Eq.refl _) (Eq.refl _)
theorem in_1s {α : Type} {f : α → Nat} {l : List α} {c : Nat} : inP (.str [c]) (.lst (l.map fun x => .str [f x])) = some (l.any fun x => f x == c) := by
  have h1 : (l.map fun x => PV.str [f x]).all flatP = true := by
    rw [List.all_map, List.all_eq_true]; intro x _; rfl
  show (if flatP (.str [c]) && (l.map fun x => PV.str [f x]).all flatP then some ((l.map fun x => PV.str [f x]).any fun z => eqP z (.str [c])) else _) = _
  rw [h1, List.any_map]
  show some (l.any ((fun z => eqP z (.str [c])) ∘ fun x => PV.str [f x])) = _
  congr 2
  funext x
  show ([f x] == [c]) = (f x == c)
  rw [Bool.eq_iff_iff, beq_iff_eq, beq_iff_eq]
  exact ⟨fun h => by injection h, fun h => by rw [h]⟩
theorem fil_perm {α : Type} {P Q : α → Bool} : ∀ {l : List α}, (∀ x ∈ l, Q x = !P x) → (l.filter P ++ l.filter Q).Perm l
  | [], _ => List.Perm.refl _
  | x :: r, h => by
    have ih := fil_perm (P := P) (Q := Q) (l := r) fun y hy => h y (List.mem_cons_of_mem _ hy)
    have hx := h x List.mem_cons_self
    rw [List.filter_cons, List.filter_cons, hx]
    cases hp : P x with
    | true => simpa using List.Perm.cons x ih
    | false => simpa using (List.perm_middle).trans (List.Perm.cons x ih)
/-- a container's cell, whether it is owned or not -/
def ov (b : Bool) (v : PV) : Cell := match b with
  | true => .own v
  | false => .val v
theorem ov_t {v : PV} : ov true v = .own v := Eq.trans (Eq.refl _) (Eq.refl _)
theorem ov_f {v : PV} : ov false v = .val v := Eq.trans (Eq.refl _) (Eq.refl _)
theorem dput_new {kvs : List (DKey × PV)} {k : DKey} {v : PV} (h : ∀ e ∈ kvs, e.1 ≠ k) : dput kvs k v = kvs ++ [(k, v)] := by
  unfold dput
  rw [if_neg]
  rw [List.any_eq_true]
  rintro ⟨e, he, q⟩
  exact h e he (by simpa using q)
theorem cd_map {α : Type} {own : List Nat} {t : XT} {c ek e : XE} {F : Fn} {env : List Cell} {mu : List PV} {emb : α → PV} {l : List α} {key : α → PV} {val : α → PV} {env' : α → List Cell} (kk : α → L2.Key)
    (h : ∀ x ∈ l, turnD F t c ek e (emb x) ⟨wipeE env own, mu⟩ = rt (some (key x, val x)) ⟨env' x, mu⟩ ∧ backE env (env' x) own = env) (hk : ∀ x ∈ l, keyOf (key x) = some (.inl (kk x))) (nd : (l.map kk).Nodup)
    (hno : noOwn env own = true) (hl : l.length ≤ SL) : dcompS own t c ek e F (l.map emb) ⟨env, mu⟩ = rt (l.map fun x => (.inl (kk x), val x)) ⟨env, mu⟩ := by
  unfold dcompS
  have : ∀ (l : List α) (acc : List (DKey × PV)), (∀ x ∈ l, turnD F t c ek e (emb x) ⟨wipeE env own, mu⟩ = rt (some (key x, val x)) ⟨env' x, mu⟩ ∧ backE env (env' x) own = env) → (∀ x ∈ l, keyOf (key x) = some (.inl (kk x))) → (l.map kk).Nodup → (∀ a ∈ acc, ∀ x ∈ l, a.1 ≠ .inl (kk x)) → acc.length + l.length ≤ SL →
      compD own (turnD F t c ek e) (l.map emb) acc ⟨env, mu⟩ = rt (acc ++ l.map fun x => (.inl (kk x), val x)) ⟨env, mu⟩ := by
    intro l
    induction l with
    | nil => intro acc _ _ _ _ _; simp [compD]
    | cons x r ih =>
      intro acc hf hk nd ha hl
      obtain ⟨h1, h2⟩ := hf x List.mem_cons_self
      have hkx := hk x List.mem_cons_self
      rw [List.map_cons, List.nodup_cons] at nd
      simp only [List.length_cons] at hl
      rw [List.map_cons]
      unfold compD
      rw [if_pos hno, h1]
      show (match keyOf (key x) with
        | some (.inl k) => if acc.length < SL then compD own (turnD F t c ek e) (r.map emb) (dput acc (.inl k) (val x)) ⟨backE env (env' x) own, mu⟩ else none
        | _ => none) = _
      rw [hkx]
      show (if acc.length < SL then compD own (turnD F t c ek e) (r.map emb) (dput acc (.inl (kk x)) (val x)) ⟨backE env (env' x) own, mu⟩ else none) = _
      rw [if_pos (by omega), h2, dput_new (fun a h => ha a h x List.mem_cons_self), ih _ (fun y hy => hf y (List.mem_cons_of_mem _ hy)) (fun y hy => hk y (List.mem_cons_of_mem _ hy)) nd.2 (fun a h y hy q => ?_) (by simp; omega)]
      · simp
      · rcases List.mem_append.mp h with h | h
        · exact ha a h y (List.mem_cons_of_mem _ hy) q
        · rw [List.mem_singleton.mp h] at q
          injection q with q
          exact nd.1 (q ▸ List.mem_map.mpr ⟨y, hy, rfl⟩)
  exact (this l [] h hk nd (fun _ h => by cases h) (by simpa using hl)).trans (by simp)
end Lk

namespace Lk
def deck (cs : List Int) (p r c : Int) : PV := .lst [.lst (cs.map .int), .int p, .int r, .int c]
/-- a deck -/
def Dk (d : PV) : Prop := ∃ cs p r c, d = deck cs p r c ∧ 0 ≤ p ∧ 0 ≤ r ∧ 0 ≤ c
theorem pick_a (cs : List Int) (p r c m : Int) (rest : List PV) (hr : 0 < r) (hm : 0 < m) (hm2 : m.natAbs < 1073741824) :
    evF x__law_pick [.ref 0, .int m] (deck cs p r c :: rest) = some (.ok (.int (r % m), false), deck cs p (r / m) (c + 1) :: rest) := by
  unfold x__law_pick deck
  simp (decide := true) only [cmp_ei, cmp_ni, cmp_es, cmp_ns, cmp_lt, cmp_le, cmp_gt, cmp_ge, cmp_is, cmp_isn, cmp_in, cmp_nin, ↓evR_comp, ↓evR_dcomp, ↓evS_for, ↓evS_whl, turnS, turnD, evF, fixN, evSs, evS, evR, evA, evL, evI, plc, tst, fz, ↓bd_k, ↓op1_k, bdk_rt, bdk_some, bdk_exc, fin_exc, ↓evS_try, tryS_rt, tryS_exc, evH, evX, excIs, exLt, wipeX, List.zip_nil_left, List.reverse_nil, List.reverse_cons, List.zip_cons_cons, op1k_some, setB, Sg.look, Sg.lookL, drf, Sg.put, entry, fin_ret, fin_nx, bindT, bindTs, callR, List.map_cons, List.map_nil, List.length_cons, List.length_nil, List.length_map, List.replicate_succ, List.replicate_zero, List.getElem?_cons_zero, List.getElem?_cons_succ, List.cons_append, List.nil_append, List.set_cons_zero, List.set_cons_succ, binP, binI, set_lst, p_len_l, p_len_t, p_len_k, p_len_s, p_int_i, p_int_b, p_tup_l, p_tup_t, p_lst_l, p_lst_t, p_srt_l, p_all_l, p_any_l, p_sum_l, metK, mutK, sameK, isinP, isOf, tyName, fput, putFP, keyOf, keyOf1, kindOf, part, isP, strsOf, intsOf, blsOf, b2n, Option.map_some, Option.bind_some, Option.map_none, Option.bind_none, truthy, reduceIte, if_true, if_false, isCont, Nat.reduceAdd, Nat.reduceSub, Nat.reduceLT, Nat.reduceMul, Nat.reducePow, Int.reduceLE, Int.reduceLT, Int.reduceToNat, Int.reduceAdd, Int.reduceSub, Int.reduceMul, Int.reduceNeg, Int.reducePow, Nat.zero_add, Nat.zero_lt_succ, and_self, and_true, true_and, decide_true, decide_false, Bool.false_and, Bool.and_false, Bool.true_and, Bool.and_true, Bool.not_true, Bool.not_false, Bool.or_false, Bool.or_true, Bool.false_or, Bool.true_or, eq_self, Bool.false_eq_true, String.reduceBEq, String.reduceEq, beq_self_eq_true, List.all_cons, List.all_nil, List.any_cons, List.any_nil, itemsOf, cmulB, cpowB, idxP, ixN', slcP, hr, hm, hm2]
/-- the cell that is next -/
def cellAt (cs : List Int) (p : Int) : Int := cs.getD (p % cs.length).toNat 0
def num1 (x c : Int) : Int := (x + 7919 * c + 1) * 48271 % 2147483647
def num2 (n : Int) : Int := n * (n / 1009 + 69621) % 2147483647
def num3 (n : Int) : Int := n * (n / 2003 + 40692) % 2147483399
theorem num1_b (x c : Int) : 0 ≤ num1 x c ∧ num1 x c < 2147483647 := by unfold num1; omega
theorem num2_b (x : Int) : 0 ≤ num2 x ∧ num2 x < 2147483647 := by
  unfold num2
  exact ⟨Int.emod_nonneg _ (by decide), Int.emod_lt_of_pos _ (by decide)⟩
theorem pick_b (cs : List Int) (p c m : Int) (rest : List PV) (hp : 0 ≤ p) (hm : 0 < m) (hm2 : m.natAbs < 1073741824) (hc : cs ≠ []) (hx : ¬ (1000000000000000000 ≤ cellAt cs p ∧ p + 1 ≤ cs.length)) :
    evF x__law_pick [.ref 0, .int m] (deck cs p 0 c :: rest) = some (.ok (.int (num3 (num2 (num1 (cellAt cs p) (c + 1))) % m), false), deck cs (p + 1) 0 (c + 1) :: rest) := by
  have hl : 0 < cs.length := List.length_pos_iff.mpr hc
  have hl2 : (0 : Int) < cs.length := by omega
  have i1 : 0 ≤ p % cs.length := Int.emod_nonneg _ (by omega)
  have i2 : p % cs.length < cs.length := Int.emod_lt_of_pos _ hl2
  have i3 : (p % cs.length).toNat < cs.length := by omega
  have ei : cs[(p % cs.length).toNat]? = some (cellAt cs p) := by
    unfold cellAt
    rw [List.getD_eq_getElem?_getD, List.getElem?_eq_getElem i3]; rfl
  have b1 := num1_b (cellAt cs p) (c + 1)
  have b2 := num2_b (num1 (cellAt cs p) (c + 1))
  have c1 : (num1 (cellAt cs p) (c + 1)).natAbs < 18446744073709551616 := by omega
  have c2 : (num2 (num1 (cellAt cs p) (c + 1))).natAbs < 18446744073709551616 := by omega
  unfold num2 at c2
  unfold num1 at c1 c2
  unfold x__law_pick deck
  by_cases hq : 1000000000000000000 ≤ cellAt cs p
  · have hq2 : ¬ (p + 1 ≤ cs.length) := fun h => hx ⟨hq, h⟩
    simp (decide := true) only [cmp_ei, cmp_ni, cmp_es, cmp_ns, cmp_lt, cmp_le, cmp_gt, cmp_ge, cmp_is, cmp_isn, cmp_in, cmp_nin, ↓evR_comp, ↓evR_dcomp, ↓evS_for, ↓evS_whl, turnS, turnD, evF, fixN, evSs, evS, evR, evA, evL, evI, plc, tst, fz, ↓bd_k, ↓op1_k, bdk_rt, bdk_some, bdk_exc, fin_exc, ↓evS_try, tryS_rt, tryS_exc, evH, evX, excIs, exLt, wipeX, List.zip_nil_left, List.reverse_nil, List.reverse_cons, List.zip_cons_cons, op1k_some, setB, Sg.look, Sg.lookL, drf, Sg.put, entry, fin_ret, fin_nx, bindT, bindTs, callR, List.map_cons, List.map_nil, List.length_cons, List.length_nil, List.length_map, List.replicate_succ, List.replicate_zero, List.getElem?_cons_zero, List.getElem?_cons_succ, List.cons_append, List.nil_append, List.set_cons_zero, List.set_cons_succ, binP, binI, set_lst, p_len_l, p_len_t, p_len_k, p_len_s, p_int_i, p_int_b, p_tup_l, p_tup_t, p_lst_l, p_lst_t, p_srt_l, p_all_l, p_any_l, p_sum_l, metK, mutK, sameK, isinP, isOf, tyName, fput, putFP, keyOf, keyOf1, kindOf, part, isP, strsOf, intsOf, blsOf, b2n, Option.map_some, Option.bind_some, Option.map_none, Option.bind_none, truthy, reduceIte, if_true, if_false, isCont, Nat.reduceAdd, Nat.reduceSub, Nat.reduceLT, Nat.reduceMul, Nat.reducePow, Int.reduceLE, Int.reduceLT, Int.reduceToNat, Int.reduceAdd, Int.reduceSub, Int.reduceMul, Int.reduceNeg, Int.reducePow, Nat.zero_add, Nat.zero_lt_succ, and_self, and_true, true_and, decide_true, decide_false, Bool.false_and, Bool.and_false, Bool.true_and, Bool.and_true, Bool.not_true, Bool.not_false, Bool.or_false, Bool.or_true, Bool.false_or, Bool.true_or, eq_self, Bool.false_eq_true, String.reduceBEq, String.reduceEq, beq_self_eq_true, List.all_cons, List.all_nil, List.any_cons, List.any_nil, itemsOf, cmulB, cpowB, idxP, ixN', slcP, hl2, hm, hm2, i1, i2, List.getElem?_map, ei, hq, hq2, c1, c2]
    rfl
  · simp (decide := true) only [cmp_ei, cmp_ni, cmp_es, cmp_ns, cmp_lt, cmp_le, cmp_gt, cmp_ge, cmp_is, cmp_isn, cmp_in, cmp_nin, ↓evR_comp, ↓evR_dcomp, ↓evS_for, ↓evS_whl, turnS, turnD, evF, fixN, evSs, evS, evR, evA, evL, evI, plc, tst, fz, ↓bd_k, ↓op1_k, bdk_rt, bdk_some, bdk_exc, fin_exc, ↓evS_try, tryS_rt, tryS_exc, evH, evX, excIs, exLt, wipeX, List.zip_nil_left, List.reverse_nil, List.reverse_cons, List.zip_cons_cons, op1k_some, setB, Sg.look, Sg.lookL, drf, Sg.put, entry, fin_ret, fin_nx, bindT, bindTs, callR, List.map_cons, List.map_nil, List.length_cons, List.length_nil, List.length_map, List.replicate_succ, List.replicate_zero, List.getElem?_cons_zero, List.getElem?_cons_succ, List.cons_append, List.nil_append, List.set_cons_zero, List.set_cons_succ, binP, binI, set_lst, p_len_l, p_len_t, p_len_k, p_len_s, p_int_i, p_int_b, p_tup_l, p_tup_t, p_lst_l, p_lst_t, p_srt_l, p_all_l, p_any_l, p_sum_l, metK, mutK, sameK, isinP, isOf, tyName, fput, putFP, keyOf, keyOf1, kindOf, part, isP, strsOf, intsOf, blsOf, b2n, Option.map_some, Option.bind_some, Option.map_none, Option.bind_none, truthy, reduceIte, if_true, if_false, isCont, Nat.reduceAdd, Nat.reduceSub, Nat.reduceLT, Nat.reduceMul, Nat.reducePow, Int.reduceLE, Int.reduceLT, Int.reduceToNat, Int.reduceAdd, Int.reduceSub, Int.reduceMul, Int.reduceNeg, Int.reducePow, Nat.zero_add, Nat.zero_lt_succ, and_self, and_true, true_and, decide_true, decide_false, Bool.false_and, Bool.and_false, Bool.true_and, Bool.and_true, Bool.not_true, Bool.not_false, Bool.or_false, Bool.or_true, Bool.false_or, Bool.true_or, eq_self, Bool.false_eq_true, String.reduceBEq, String.reduceEq, beq_self_eq_true, List.all_cons, List.all_nil, List.any_cons, List.any_nil, itemsOf, cmulB, cpowB, idxP, ixN', slcP, hl2, hm, hm2, i1, i2, List.getElem?_map, ei, hq, c1, c2]
    rfl
theorem pick_c (cs : List Int) (p c m : Int) (rest : List PV) (hp : 0 ≤ p) (hm : 0 < m) (hm2 : m.natAbs < 1073741824) (hc : cs ≠ []) (hq : 1000000000000000000 ≤ cellAt cs p) (hq2 : p + 1 ≤ cs.length) :
    evF x__law_pick [.ref 0, .int m] (deck cs p 0 c :: rest) = some (.ok (.int (cellAt cs p % m), false), deck cs (p + 1) (cellAt cs p / m) (c + 1) :: rest) := by
  have hl : 0 < cs.length := List.length_pos_iff.mpr hc
  have hl2 : (0 : Int) < cs.length := by omega
  have i1 : 0 ≤ p % cs.length := Int.emod_nonneg _ (by omega)
  have i2 : p % cs.length < cs.length := Int.emod_lt_of_pos _ hl2
  have i3 : (p % cs.length).toNat < cs.length := by omega
  have ei : cs[(p % cs.length).toNat]? = some (cellAt cs p) := by
    unfold cellAt
    rw [List.getD_eq_getElem?_getD, List.getElem?_eq_getElem i3]; rfl
  unfold x__law_pick deck
  simp (decide := true) only [cmp_ei, cmp_ni, cmp_es, cmp_ns, cmp_lt, cmp_le, cmp_gt, cmp_ge, cmp_is, cmp_isn, cmp_in, cmp_nin, ↓evR_comp, ↓evR_dcomp, ↓evS_for, ↓evS_whl, turnS, turnD, evF, fixN, evSs, evS, evR, evA, evL, evI, plc, tst, fz, ↓bd_k, ↓op1_k, bdk_rt, bdk_some, bdk_exc, fin_exc, ↓evS_try, tryS_rt, tryS_exc, evH, evX, excIs, exLt, wipeX, List.zip_nil_left, List.reverse_nil, List.reverse_cons, List.zip_cons_cons, op1k_some, setB, Sg.look, Sg.lookL, drf, Sg.put, entry, fin_ret, fin_nx, bindT, bindTs, callR, List.map_cons, List.map_nil, List.length_cons, List.length_nil, List.length_map, List.replicate_succ, List.replicate_zero, List.getElem?_cons_zero, List.getElem?_cons_succ, List.cons_append, List.nil_append, List.set_cons_zero, List.set_cons_succ, binP, binI, set_lst, p_len_l, p_len_t, p_len_k, p_len_s, p_int_i, p_int_b, p_tup_l, p_tup_t, p_lst_l, p_lst_t, p_srt_l, p_all_l, p_any_l, p_sum_l, metK, mutK, sameK, isinP, isOf, tyName, fput, putFP, keyOf, keyOf1, kindOf, part, isP, strsOf, intsOf, blsOf, b2n, Option.map_some, Option.bind_some, Option.map_none, Option.bind_none, truthy, reduceIte, if_true, if_false, isCont, Nat.reduceAdd, Nat.reduceSub, Nat.reduceLT, Nat.reduceMul, Nat.reducePow, Int.reduceLE, Int.reduceLT, Int.reduceToNat, Int.reduceAdd, Int.reduceSub, Int.reduceMul, Int.reduceNeg, Int.reducePow, Nat.zero_add, Nat.zero_lt_succ, and_self, and_true, true_and, decide_true, decide_false, Bool.false_and, Bool.and_false, Bool.true_and, Bool.and_true, Bool.not_true, Bool.not_false, Bool.or_false, Bool.or_true, Bool.false_or, Bool.true_or, eq_self, Bool.false_eq_true, String.reduceBEq, String.reduceEq, beq_self_eq_true, List.all_cons, List.all_nil, List.any_cons, List.any_nil, itemsOf, cmulB, cpowB, idxP, ixN', slcP, hl2, hm, hm2, i1, i2, List.getElem?_map, ei, hq, hq2]
theorem pick_d (p c m : Int) (rest : List PV) (hm : 0 < m) (hm2 : m.natAbs < 1073741824) :
    evF x__law_pick [.ref 0, .int m] (deck [] p 0 c :: rest) = some (.ok (.int (num3 (num2 (num1 0 (c + 1))) % m), false), deck [] (p + 1) 0 (c + 1) :: rest) := by
  have b1 := num1_b 0 (c + 1)
  have b2 := num2_b (num1 0 (c + 1))
  have c1 : (num1 0 (c + 1)).natAbs < 18446744073709551616 := by omega
  have c2 : (num2 (num1 0 (c + 1))).natAbs < 18446744073709551616 := by omega
  unfold num2 at c2
  unfold num1 at c1 c2
  unfold x__law_pick deck
  simp (decide := true) only [cmp_ei, cmp_ni, cmp_es, cmp_ns, cmp_lt, cmp_le, cmp_gt, cmp_ge, cmp_is, cmp_isn, cmp_in, cmp_nin, ↓evR_comp, ↓evR_dcomp, ↓evS_for, ↓evS_whl, turnS, turnD, evF, fixN, evSs, evS, evR, evA, evL, evI, plc, tst, fz, ↓bd_k, ↓op1_k, bdk_rt, bdk_some, bdk_exc, fin_exc, ↓evS_try, tryS_rt, tryS_exc, evH, evX, excIs, exLt, wipeX, List.zip_nil_left, List.reverse_nil, List.reverse_cons, List.zip_cons_cons, op1k_some, setB, Sg.look, Sg.lookL, drf, Sg.put, entry, fin_ret, fin_nx, bindT, bindTs, callR, List.map_cons, List.map_nil, List.length_cons, List.length_nil, List.length_map, List.replicate_succ, List.replicate_zero, List.getElem?_cons_zero, List.getElem?_cons_succ, List.cons_append, List.nil_append, List.set_cons_zero, List.set_cons_succ, binP, binI, set_lst, p_len_l, p_len_t, p_len_k, p_len_s, p_int_i, p_int_b, p_tup_l, p_tup_t, p_lst_l, p_lst_t, p_srt_l, p_all_l, p_any_l, p_sum_l, metK, mutK, sameK, isinP, isOf, tyName, fput, putFP, keyOf, keyOf1, kindOf, part, isP, strsOf, intsOf, blsOf, b2n, Option.map_some, Option.bind_some, Option.map_none, Option.bind_none, truthy, reduceIte, if_true, if_false, isCont, Nat.reduceAdd, Nat.reduceSub, Nat.reduceLT, Nat.reduceMul, Nat.reducePow, Int.reduceLE, Int.reduceLT, Int.reduceToNat, Int.reduceAdd, Int.reduceSub, Int.reduceMul, Int.reduceNeg, Int.reducePow, Nat.zero_add, Nat.zero_lt_succ, and_self, and_true, true_and, decide_true, decide_false, Bool.false_and, Bool.and_false, Bool.true_and, Bool.and_true, Bool.not_true, Bool.not_false, Bool.or_false, Bool.or_true, Bool.false_or, Bool.true_or, eq_self, Bool.false_eq_true, String.reduceBEq, String.reduceEq, beq_self_eq_true, List.all_cons, List.all_nil, List.any_cons, List.any_nil, itemsOf, cmulB, cpowB, idxP, ixN', slcP, hm, hm2, c1, c2]
  rfl
theorem pick_ok {d : PV} (hd : Dk d) {m : Int} (rest : List PV) (hm : 0 < m) (hm3 : m < 1073741824) : ∃ v d', 0 ≤ v ∧ v < m ∧ Dk d' ∧ evF x__law_pick [.ref 0, .int m] (d :: rest) = some (.ok (.int v, false), d' :: rest) := by
  obtain ⟨cs, p, r, c, rfl, hp, hr, hc⟩ := hd
  have hm2 : m.natAbs < 1073741824 := by omega
  have pos : ∀ x : Int, 0 ≤ x % m ∧ x % m < m := fun x => ⟨Int.emod_nonneg _ (by omega), Int.emod_lt_of_pos _ hm⟩
  by_cases h0 : 0 < r
  · exact ⟨_, _, (pos _).1, (pos _).2, ⟨cs, p, r / m, c + 1, rfl, hp, Int.ediv_nonneg hr (by omega), by omega⟩, pick_a cs p r c m rest h0 hm hm2⟩
  · have : r = 0 := by omega
    subst this
    by_cases hcs : cs = []
    · subst hcs
      exact ⟨_, _, (pos _).1, (pos _).2, ⟨[], p + 1, 0, c + 1, rfl, by omega, by omega, by omega⟩, pick_d p c m rest hm hm2⟩
    · by_cases hx : 1000000000000000000 ≤ cellAt cs p ∧ p + 1 ≤ cs.length
      · exact ⟨_, _, (pos _).1, (pos _).2, ⟨cs, p + 1, _, c + 1, rfl, by omega, Int.ediv_nonneg (by omega) (by omega), by omega⟩, pick_c cs p c m rest hp hm hm2 hcs hx.1 hx.2⟩
      · exact ⟨_, _, (pos _).1, (pos _).2, ⟨cs, p + 1, 0, c + 1, rfl, by omega, by omega, by omega⟩, pick_b cs p c m rest hp hm hm2 hcs hx⟩
theorem deck_ok (ns : List Int) (hl : ns.length ≤ 63) : ∃ d, Dk d ∧ evF x__law_deck [.scr ns] [] = some (.ok (.ref 0, false), [d]) := by
  have hs : cut' ns none (some 63) = ns := by
    unfold cut' sIx'
    simp only [List.drop_zero]
    rw [if_neg (by decide)]
    exact List.take_of_length_le (by simp; omega)
  refine ⟨deck ns 0 0 0, ⟨ns, 0, 0, 0, rfl, by decide, by decide, by decide⟩, ?_⟩
  have hc : compS [1] (.name 1) (.cst (.bl true)) x__law_deck_e0 (fun _ _ => none) (ns.map PV.int) ⟨[.val (.scr ns), .non], []⟩ = rt (ns.map PV.int) ⟨[.val (.scr ns), .non], []⟩ := by
    rw [compS_pure (fun x => some x) rfl ?_ (by simp [SL]; omega)]
    · simp
    · intro x hx
      obtain ⟨i, _, rfl⟩ := List.mem_map.mp hx
      refine ⟨[.val (.scr ns), .val (.int i)], ?_, rfl⟩
      unfold x__law_deck_e0
      simp (decide := true) only [cmp_ei, cmp_ni, cmp_es, cmp_ns, cmp_lt, cmp_le, cmp_gt, cmp_ge, cmp_is, cmp_isn, cmp_in, cmp_nin, ↓evR_comp, ↓evR_dcomp, ↓evS_for, ↓evS_whl, turnS, turnD, evF, fixN, evSs, evS, evR, evA, evL, evI, plc, tst, fz, ↓bd_k, ↓op1_k, bdk_rt, bdk_some, bdk_exc, fin_exc, ↓evS_try, tryS_rt, tryS_exc, evH, evX, excIs, exLt, wipeX, List.zip_nil_left, List.reverse_nil, List.reverse_cons, List.zip_cons_cons, op1k_some, setB, Sg.look, Sg.lookL, drf, Sg.put, entry, fin_ret, fin_nx, bindT, bindTs, callR, List.map_cons, List.map_nil, List.length_cons, List.length_nil, List.length_map, List.replicate_succ, List.replicate_zero, List.getElem?_cons_zero, List.getElem?_cons_succ, List.cons_append, List.nil_append, List.set_cons_zero, List.set_cons_succ, binP, binI, set_lst, p_len_l, p_len_t, p_len_k, p_len_s, p_int_i, p_int_b, p_tup_l, p_tup_t, p_lst_l, p_lst_t, p_srt_l, p_all_l, p_any_l, p_sum_l, metK, mutK, sameK, isinP, isOf, tyName, fput, putFP, keyOf, keyOf1, kindOf, part, isP, strsOf, intsOf, blsOf, b2n, Option.map_some, Option.bind_some, Option.map_none, Option.bind_none, truthy, reduceIte, if_true, if_false, isCont, Nat.reduceAdd, Nat.reduceSub, Nat.reduceLT, Nat.reduceMul, Nat.reducePow, Int.reduceLE, Int.reduceLT, Int.reduceToNat, Int.reduceAdd, Int.reduceSub, Int.reduceMul, Int.reduceNeg, Int.reducePow, Nat.zero_add, Nat.zero_lt_succ, and_self, and_true, true_and, decide_true, decide_false, Bool.false_and, Bool.and_false, Bool.true_and, Bool.and_true, Bool.not_true, Bool.not_false, Bool.or_false, Bool.or_true, Bool.false_or, Bool.true_or, eq_self, Bool.false_eq_true, String.reduceBEq, String.reduceEq, beq_self_eq_true, List.all_cons, List.all_nil, List.any_cons, List.any_nil, itemsOf, cmulB, cpowB, idxP, ixN', slcP, wipeE]
  unfold x__law_deck
  simp (decide := true) only [cmp_ei, cmp_ni, cmp_es, cmp_ns, cmp_lt, cmp_le, cmp_gt, cmp_ge, cmp_is, cmp_isn, cmp_in, cmp_nin, ↓evR_comp, ↓evR_dcomp, ↓evS_for, ↓evS_whl, turnS, turnD, evF, fixN, evSs, evS, evR, evA, evL, evI, plc, tst, fz, ↓bd_k, ↓op1_k, bdk_rt, bdk_some, bdk_exc, fin_exc, ↓evS_try, tryS_rt, tryS_exc, evH, evX, excIs, exLt, wipeX, List.zip_nil_left, List.reverse_nil, List.reverse_cons, List.zip_cons_cons, op1k_some, setB, Sg.look, Sg.lookL, drf, Sg.put, entry, fin_ret, fin_nx, bindT, bindTs, callR, List.map_cons, List.map_nil, List.length_cons, List.length_nil, List.length_map, List.replicate_succ, List.replicate_zero, List.getElem?_cons_zero, List.getElem?_cons_succ, List.cons_append, List.nil_append, List.set_cons_zero, List.set_cons_succ, binP, binI, set_lst, p_len_l, p_len_t, p_len_k, p_len_s, p_int_i, p_int_b, p_tup_l, p_tup_t, p_lst_l, p_lst_t, p_srt_l, p_all_l, p_any_l, p_sum_l, metK, mutK, sameK, isinP, isOf, tyName, fput, putFP, keyOf, keyOf1, kindOf, part, isP, strsOf, intsOf, blsOf, b2n, Option.map_some, Option.bind_some, Option.map_none, Option.bind_none, truthy, reduceIte, if_true, if_false, isCont, Nat.reduceAdd, Nat.reduceSub, Nat.reduceLT, Nat.reduceMul, Nat.reducePow, Int.reduceLE, Int.reduceLT, Int.reduceToNat, Int.reduceAdd, Int.reduceSub, Int.reduceMul, Int.reduceNeg, Int.reducePow, Nat.zero_add, Nat.zero_lt_succ, and_self, and_true, true_and, decide_true, decide_false, Bool.false_and, Bool.and_false, Bool.true_and, Bool.and_true, Bool.not_true, Bool.not_false, Bool.or_false, Bool.or_true, Bool.false_or, Bool.true_or, eq_self, Bool.false_eq_true, String.reduceBEq, String.reduceEq, beq_self_eq_true, List.all_cons, List.all_nil, List.any_cons, List.any_nil, itemsOf, cmulB, cpowB, idxP, ixN', slcP, hs, hc]
  rfl
end Lk

namespace Lk
theorem bitAnd_one (x : Int) : PySem.Builtin.bitAnd x 1 = x % 2 := by
  unfold PySem.Builtin.bitAnd
  by_cases h : 0 ≤ x
  · simp only [h, decide_true, show (0:Int) ≤ 1 from by decide]
    obtain ⟨n, rfl⟩ := Int.eq_ofNat_of_zero_le h
    show ((n &&& 1 : Nat) : Int) = _
    rw [Nat.and_one_is_mod]; omega
  · simp only [h, decide_false, decide_true, show (0:Int) ≤ 1 from by decide]
    obtain ⟨n, hn⟩ : ∃ n : Nat, PySem.Builtin.bitNot x = n := ⟨(-x - 1).toNat, by unfold PySem.Builtin.bitNot; omega⟩
    rw [hn]
    unfold PySem.Builtin.bitNot at hn
    show (1 : Int) - ((1 &&& n : Nat) : Int) = _
    rw [Nat.and_comm, Nat.and_one_is_mod]; omega
/-- a row's signs -/
def rowB (p n : Nat) : List Nat := (List.range p).map fun a => 48 + n / 2 ^ (p - 1 - a) % 2
theorem rowB_len {p n : Nat} : (rowB p n).length = p := by simp [rowB]
theorem idx01 {x : Int} (h : x = 0 ∨ x = 1) : idxP (.str [48, 49]) (.int x) = some (.str [48 + x.toNat]) := by
  rcases h with rfl | rfl <;> rfl
theorem row_ok (n p : Nat) (mu : List PV) (hp : p ≤ 1000) : evF x__law_row [.int n, .int p] mu = some (.ok (.str (rowB p n), false), mu) := by
  have hc : compS [2] (.name 2) (.cst (.bl true)) x__law_row_e0 (fun _ _ => none) (rangeP 0 p) ⟨[.val (.int n), .val (.int p), .non], mu⟩ = rt ((rowB p n).map fun c => PV.str [c]) ⟨[.val (.int n), .val (.int p), .non], mu⟩ := by
    rw [rangeP_0, compS_pure (fun x => match x with | .int i => some (.str [48 + n / 2 ^ (p - 1 - i.toNat) % 2]) | _ => none) rfl ?_ (by simp [SL]; omega)]
    · rw [List.filterMap_map]
      unfold rowB
      rw [List.map_map]
      congr 1
      exact filterMap_some_map
    · intro x hx
      obtain ⟨i, hi, rfl⟩ := List.mem_map.mp hx
      rw [List.mem_range] at hi
      have h1 : (0 : Int) ≤ (p : Int) - 1 - i := by omega
      have e1 : ((p : Int) - 1 - i).toNat = p - 1 - i := by omega
      have e2 : (n : Int) / 2 ^ (p - 1 - i) % 2 = ((n / 2 ^ (p - 1 - i) % 2 : Nat) : Int) := by norm_cast
      have e3 := idx01 (x := ((n / 2 ^ (p - 1 - i) % 2 : Nat) : Int)) (by omega)
      refine ⟨[.val (.int n), .val (.int p), .val (.int i)], ?_, rfl⟩
      unfold x__law_row_e0
      simp (decide := true) only [cmp_ei, cmp_ni, cmp_es, cmp_ns, cmp_lt, cmp_le, cmp_gt, cmp_ge, cmp_is, cmp_isn, cmp_in, cmp_nin, ↓evR_comp, ↓evR_dcomp, ↓evS_for, ↓evS_whl, turnS, turnD, evF, fixN, evSs, evS, evR, evA, evL, evI, plc, tst, fz, ↓bd_k, ↓op1_k, bdk_rt, bdk_some, bdk_exc, fin_exc, ↓evS_try, tryS_rt, tryS_exc, evH, evX, excIs, exLt, wipeX, List.zip_nil_left, List.reverse_nil, List.reverse_cons, List.zip_cons_cons, op1k_some, setB, Sg.look, Sg.lookL, drf, Sg.put, entry, fin_ret, fin_nx, bindT, bindTs, callR, List.map_cons, List.map_nil, List.length_cons, List.length_nil, List.length_map, List.replicate_succ, List.replicate_zero, List.getElem?_cons_zero, List.getElem?_cons_succ, List.cons_append, List.nil_append, List.set_cons_zero, List.set_cons_succ, binP, binI, set_lst, p_len_l, p_len_t, p_len_k, p_len_s, p_int_i, p_int_b, p_tup_l, p_tup_t, p_lst_l, p_lst_t, p_srt_l, p_all_l, p_any_l, p_sum_l, metK, mutK, sameK, isinP, isOf, tyName, fput, putFP, keyOf, keyOf1, kindOf, part, isP, strsOf, intsOf, blsOf, b2n, Option.map_some, Option.bind_some, Option.map_none, Option.bind_none, truthy, reduceIte, if_true, if_false, isCont, Nat.reduceAdd, Nat.reduceSub, Nat.reduceLT, Nat.reduceMul, Nat.reducePow, Int.reduceLE, Int.reduceLT, Int.reduceToNat, Int.reduceAdd, Int.reduceSub, Int.reduceMul, Int.reduceNeg, Int.reducePow, Nat.zero_add, Nat.zero_lt_succ, and_self, and_true, true_and, decide_true, decide_false, Bool.false_and, Bool.and_false, Bool.true_and, Bool.and_true, Bool.not_true, Bool.not_false, Bool.or_false, Bool.or_true, Bool.false_or, Bool.true_or, eq_self, Bool.false_eq_true, String.reduceBEq, String.reduceEq, beq_self_eq_true, List.all_cons, List.all_nil, List.any_cons, List.any_nil, itemsOf, cmulB, cpowB, wipeE, h1, e1, bitAnd_one, e2, e3, Int.toNat_natCast]
  have hr : rgB 0 p = true := rgB_ok (by decide) (by decide) (by omega) (by omega)
  unfold x__law_row
  simp (decide := true) only [cmp_ei, cmp_ni, cmp_es, cmp_ns, cmp_lt, cmp_le, cmp_gt, cmp_ge, cmp_is, cmp_isn, cmp_in, cmp_nin, ↓evR_comp, ↓evR_dcomp, ↓evS_for, ↓evS_whl, turnS, turnD, evF, fixN, evSs, evS, evR, evA, evL, evI, plc, tst, fz, ↓bd_k, ↓op1_k, bdk_rt, bdk_some, bdk_exc, fin_exc, ↓evS_try, tryS_rt, tryS_exc, evH, evX, excIs, exLt, wipeX, List.zip_nil_left, List.reverse_nil, List.reverse_cons, List.zip_cons_cons, op1k_some, setB, Sg.look, Sg.lookL, drf, Sg.put, entry, fin_ret, fin_nx, bindT, bindTs, callR, List.map_cons, List.map_nil, List.length_cons, List.length_nil, List.length_map, List.replicate_succ, List.replicate_zero, List.getElem?_cons_zero, List.getElem?_cons_succ, List.cons_append, List.nil_append, List.set_cons_zero, List.set_cons_succ, binP, binI, set_lst, p_len_l, p_len_t, p_len_k, p_len_s, p_int_i, p_int_b, p_tup_l, p_tup_t, p_lst_l, p_lst_t, p_srt_l, p_all_l, p_any_l, p_sum_l, metK, mutK, sameK, isinP, isOf, tyName, fput, putFP, keyOf, keyOf1, kindOf, part, isP, strsOf, intsOf, blsOf, b2n, Option.map_some, Option.bind_some, Option.map_none, Option.bind_none, truthy, reduceIte, if_true, if_false, isCont, Nat.reduceAdd, Nat.reduceSub, Nat.reduceLT, Nat.reduceMul, Nat.reducePow, Int.reduceLE, Int.reduceLT, Int.reduceToNat, Int.reduceAdd, Int.reduceSub, Int.reduceMul, Int.reduceNeg, Int.reducePow, Nat.zero_add, Nat.zero_lt_succ, and_self, and_true, true_and, decide_true, decide_false, Bool.false_and, Bool.and_false, Bool.true_and, Bool.and_true, Bool.not_true, Bool.not_false, Bool.or_false, Bool.or_true, Bool.false_or, Bool.true_or, eq_self, Bool.false_eq_true, String.reduceBEq, String.reduceEq, beq_self_eq_true, List.all_cons, List.all_nil, List.any_cons, List.any_nil, itemsOf, cmulB, cpowB, hr, hc, join_chars (l := rowB p n) (by rw [rowB_len]; simp [SL]; omega)]
end Lk

namespace Lk
theorem is_row_ok (s : List Nat) (mu : List PV) (hl : s.length ≤ SL) : evF x_is_row [.str s] mu = some (.ok (.bl (s.all sg01), false), mu) := by
  have hc : compS [1] (.name 1) (.cst (.bl true)) x_is_row_e0 (fun _ _ => none) (s.map fun c => PV.str [c]) ⟨[.val (.str s), .non], mu⟩ = rt ((s.map sg01).map PV.bl) ⟨[.val (.str s), .non], mu⟩ := by
    rw [compS_pure (fun x => match x with | .str [c] => some (.bl (sg01 c)) | _ => none) rfl ?_ (by simpa using hl)]
    · rw [List.filterMap_map, List.map_map]
      congr 1
      exact filterMap_some_map
    · intro x hx
      obtain ⟨c, hc, rfl⟩ := List.mem_map.mp hx
      refine ⟨[.val (.str s), .val (.str [c])], ?_, rfl⟩
      unfold x_is_row_e0
      simp (decide := true) only [cmp_ei, cmp_ni, cmp_es, cmp_ns, cmp_lt, cmp_le, cmp_gt, cmp_ge, cmp_is, cmp_isn, cmp_in, cmp_nin, ↓evR_comp, ↓evR_dcomp, ↓evS_for, ↓evS_whl, turnS, turnD, evF, fixN, evSs, evS, evR, evA, evL, evI, plc, tst, fz, ↓bd_k, ↓op1_k, bdk_rt, bdk_some, bdk_exc, fin_exc, ↓evS_try, tryS_rt, tryS_exc, evH, evX, excIs, exLt, wipeX, List.zip_nil_left, List.reverse_nil, List.reverse_cons, List.zip_cons_cons, op1k_some, setB, Sg.look, Sg.lookL, drf, Sg.put, entry, fin_ret, fin_nx, bindT, bindTs, callR, List.map_cons, List.map_nil, List.length_cons, List.length_nil, List.length_map, List.replicate_succ, List.replicate_zero, List.getElem?_cons_zero, List.getElem?_cons_succ, List.cons_append, List.nil_append, List.set_cons_zero, List.set_cons_succ, binP, binI, set_lst, p_len_l, p_len_t, p_len_k, p_len_s, p_int_i, p_int_b, p_tup_l, p_tup_t, p_lst_l, p_lst_t, p_srt_l, p_all_l, p_any_l, p_sum_l, metK, mutK, sameK, isinP, isOf, tyName, fput, putFP, keyOf, keyOf1, kindOf, part, isP, strsOf, intsOf, blsOf, b2n, Option.map_some, Option.bind_some, Option.map_none, Option.bind_none, truthy, reduceIte, if_true, if_false, isCont, Nat.reduceAdd, Nat.reduceSub, Nat.reduceLT, Nat.reduceMul, Nat.reducePow, Int.reduceLE, Int.reduceLT, Int.reduceToNat, Int.reduceAdd, Int.reduceSub, Int.reduceMul, Int.reduceNeg, Int.reducePow, Nat.zero_add, Nat.zero_lt_succ, and_self, and_true, true_and, decide_true, decide_false, Bool.false_and, Bool.and_false, Bool.true_and, Bool.and_true, Bool.not_true, Bool.not_false, Bool.or_false, Bool.or_true, Bool.false_or, Bool.true_or, eq_self, Bool.false_eq_true, String.reduceBEq, String.reduceEq, beq_self_eq_true, List.all_cons, List.all_nil, List.any_cons, List.any_nil, itemsOf, cmulB, cpowB, wipeE, in01]
  unfold x_is_row
  simp (decide := true) only [cmp_ei, cmp_ni, cmp_es, cmp_ns, cmp_lt, cmp_le, cmp_gt, cmp_ge, cmp_is, cmp_isn, cmp_in, cmp_nin, ↓evR_comp, ↓evR_dcomp, ↓evS_for, ↓evS_whl, turnS, turnD, evF, fixN, evSs, evS, evR, evA, evL, evI, plc, tst, fz, ↓bd_k, ↓op1_k, bdk_rt, bdk_some, bdk_exc, fin_exc, ↓evS_try, tryS_rt, tryS_exc, evH, evX, excIs, exLt, wipeX, List.zip_nil_left, List.reverse_nil, List.reverse_cons, List.zip_cons_cons, op1k_some, setB, Sg.look, Sg.lookL, drf, Sg.put, entry, fin_ret, fin_nx, bindT, bindTs, callR, List.map_cons, List.map_nil, List.length_cons, List.length_nil, List.length_map, List.replicate_succ, List.replicate_zero, List.getElem?_cons_zero, List.getElem?_cons_succ, List.cons_append, List.nil_append, List.set_cons_zero, List.set_cons_succ, binP, binI, set_lst, p_len_l, p_len_t, p_len_k, p_len_s, p_int_i, p_int_b, p_tup_l, p_tup_t, p_lst_l, p_lst_t, p_srt_l, p_all_l, p_any_l, p_sum_l, metK, mutK, sameK, isinP, isOf, tyName, fput, putFP, keyOf, keyOf1, kindOf, part, isP, strsOf, intsOf, blsOf, b2n, Option.map_some, Option.bind_some, Option.map_none, Option.bind_none, truthy, reduceIte, if_true, if_false, isCont, Nat.reduceAdd, Nat.reduceSub, Nat.reduceLT, Nat.reduceMul, Nat.reducePow, Int.reduceLE, Int.reduceLT, Int.reduceToNat, Int.reduceAdd, Int.reduceSub, Int.reduceMul, Int.reduceNeg, Int.reducePow, Nat.zero_add, Nat.zero_lt_succ, and_self, and_true, true_and, decide_true, decide_false, Bool.false_and, Bool.and_false, Bool.true_and, Bool.and_true, Bool.not_true, Bool.not_false, Bool.or_false, Bool.or_true, Bool.false_or, Bool.true_or, eq_self, Bool.false_eq_true, String.reduceBEq, String.reduceEq, beq_self_eq_true, List.all_cons, List.all_nil, List.any_cons, List.any_nil, itemsOf, cmulB, cpowB, hc, blsOf_map, List.all_map]
  rfl
/-- rows that a lot may have -/
structure RowsOk (p : Nat) (rs : List (List Nat)) : Prop where
  p1 : 1 ≤ p
  p10 : p ≤ 10
  len : ∀ r ∈ rs, r.length = p
  sgn : ∀ r ∈ rs, r.all sg01 = true
  nd : rs.Nodup
  ne : rs ≠ []
  most : rs.length ≤ 64
theorem lot_init_ok {p : Nat} {rs : List (List Nat)} (h : RowsOk p rs) (mu : List PV) :
    evF x_Lot_init [.ref mu.length, .lst (rs.map .str)] (mu ++ [.ins "Lot" []]) = some (.ok (.non, false), mu ++ [.ins "Lot" [("rows", .tup ((sortS rs).map .str)), ("places", .int p), ("known", .dic false [])]]) := by
  have hget : ∀ x : PV, (mu ++ [x])[mu.length]? = some x := fun x => by simp
  have hset : ∀ x y : PV, (mu ++ [x]).set mu.length y = mu ++ [y] := fun x y => by simp
  have hlt : ∀ x : PV, mu.length < (mu ++ [x]).length := fun x => by simp
  obtain ⟨r0, rs', e0⟩ : ∃ r0 rs', rs = r0 :: rs' := by
    cases rs with
    | nil => exact absurd rfl h.ne
    | cons a b => exact ⟨a, b, rfl⟩
  have h00 : (rs.map PV.str)[0]? = some (.str r0) := by rw [e0]; rfl
  have l0 : r0.length = p := h.len r0 (by rw [e0]; exact List.mem_cons_self)
  have p1 : (1 : Int) ≤ p := by have := h.p1; omega
  have p2 : (p : Int) ≤ 10 := by have := h.p10; omega
  have m1 : (1 : Int) ≤ rs.length := by rw [e0, List.length_cons]; omega
  have m2 : (rs.length : Int) ≤ 64 := by have := h.most; omega
  have m0 : (0 : Int) < rs.length := by omega
  have psl : p ≤ SL := by have := h.p10; simp [SL]; omega
  let I : Nat → Sg → Prop := fun i s => ∃ a b, s = ⟨[.val (.ref mu.length), .val (.lst (rs.map .str)), a, b], mu ++ [.ins "Lot" []]⟩
  obtain ⟨s', e, hI⟩ := forS_nx (t := .tup (.cons (.name 2) (.cons (.name 3) .nil))) (body := x_Lot_init_b0) (F := fun _ _ => none) (xs := (rs.map PV.str).zipIdx.map fun p => .tup [.int (p.2 : Nat), p.1])
    (s := ⟨[.val (.ref mu.length), .val (.lst (rs.map .str)), .non, .non], mu ++ [.ins "Lot" []]⟩) I ⟨.non, .non, rfl⟩ (fun i x s hx hs => by
      obtain ⟨a, b, rfl⟩ := hs
      rw [List.getElem?_map, List.getElem?_zipIdx, List.getElem?_map] at hx
      cases hr : rs[i]? with
      | none => rw [hr] at hx; cases hx
      | some r =>
        rw [hr] at hx
        have hx : x = .tup [.int i, .str r] := by simpa using hx.symm
        subst hx
        have hm : r ∈ rs := List.mem_of_getElem? hr
        have lr : r.length = p := h.len r hm
        have hnot := nd_take h.nd hr
        refine ⟨_, ⟨[.val (.ref mu.length), .val (.lst (rs.map .str)), .val (.int i), .val (.str r)], mu ++ [.ins "Lot" []]⟩, rfl, ?_, ⟨_, _, rfl⟩⟩
        unfold x_Lot_init_b0
        simp (decide := true) only [cmp_ei, cmp_ni, cmp_es, cmp_ns, cmp_lt, cmp_le, cmp_gt, cmp_ge, cmp_is, cmp_isn, cmp_in, cmp_nin, ↓evR_comp, ↓evR_dcomp, ↓evS_for, ↓evS_whl, turnS, turnD, evF, fixN, evSs, evS, evR, evA, evL, evI, plc, tst, fz, ↓bd_k, ↓op1_k, bdk_rt, bdk_some, bdk_exc, fin_exc, ↓evS_try, tryS_rt, tryS_exc, evH, evX, excIs, exLt, wipeX, List.zip_nil_left, List.reverse_nil, List.reverse_cons, List.zip_cons_cons, op1k_some, setB, Sg.look, Sg.lookL, drf, Sg.put, entry, fin_ret, fin_nx, bindT, bindTs, callR, List.map_cons, List.map_nil, List.length_cons, List.length_nil, List.length_map, List.replicate_succ, List.replicate_zero, List.getElem?_cons_zero, List.getElem?_cons_succ, List.cons_append, List.nil_append, List.set_cons_zero, List.set_cons_succ, binP, binI, set_lst, p_len_l, p_len_t, p_len_k, p_len_s, p_int_i, p_int_b, p_tup_l, p_tup_t, p_lst_l, p_lst_t, p_srt_l, p_all_l, p_any_l, p_sum_l, metK, mutK, sameK, isinP, isOf, tyName, fput, putFP, keyOf, keyOf1, kindOf, part, isP, strsOf, intsOf, blsOf, b2n, Option.map_some, Option.bind_some, Option.map_none, Option.bind_none, truthy, reduceIte, if_true, if_false, isCont, Nat.reduceAdd, Nat.reduceSub, Nat.reduceLT, Nat.reduceMul, Nat.reducePow, Int.reduceLE, Int.reduceLT, Int.reduceToNat, Int.reduceAdd, Int.reduceSub, Int.reduceMul, Int.reduceNeg, Int.reducePow, Nat.zero_add, Nat.zero_lt_succ, and_self, and_true, true_and, decide_true, decide_false, Bool.false_and, Bool.and_false, Bool.true_and, Bool.and_true, Bool.not_true, Bool.not_false, Bool.or_false, Bool.or_true, Bool.false_or, Bool.true_or, eq_self, Bool.false_eq_true, String.reduceBEq, String.reduceEq, beq_self_eq_true, List.all_cons, List.all_nil, List.any_cons, List.any_nil, itemsOf, cmulB, cpowB, idxP, ixN', is_row_ok r _ (by rw [lr]; exact psl), h.sgn r hm, lr, psl, p1, p2, h00, l0, slc_take, ← List.map_take, in_strs, hnot, m0])
  obtain ⟨a, b, rfl⟩ := hI
  unfold x_Lot_init
  simp (decide := true) only [cmp_ei, cmp_ni, cmp_es, cmp_ns, cmp_lt, cmp_le, cmp_gt, cmp_ge, cmp_is, cmp_isn, cmp_in, cmp_nin, ↓evR_comp, ↓evR_dcomp, ↓evS_for, ↓evS_whl, turnS, turnD, evF, fixN, evSs, evS, evR, evA, evL, evI, plc, tst, fz, ↓bd_k, ↓op1_k, bdk_rt, bdk_some, bdk_exc, fin_exc, ↓evS_try, tryS_rt, tryS_exc, evH, evX, excIs, exLt, wipeX, List.zip_nil_left, List.reverse_nil, List.reverse_cons, List.zip_cons_cons, op1k_some, setB, Sg.look, Sg.lookL, drf, Sg.put, entry, fin_ret, fin_nx, bindT, bindTs, callR, List.map_cons, List.map_nil, List.length_cons, List.length_nil, List.length_map, List.replicate_succ, List.replicate_zero, List.getElem?_cons_zero, List.getElem?_cons_succ, List.cons_append, List.nil_append, List.set_cons_zero, List.set_cons_succ, binP, binI, set_lst, p_len_l, p_len_t, p_len_k, p_len_s, p_int_i, p_int_b, p_tup_l, p_tup_t, p_lst_l, p_lst_t, p_srt_l, p_all_l, p_any_l, p_sum_l, metK, mutK, sameK, isinP, isOf, tyName, fput, putFP, keyOf, keyOf1, kindOf, part, isP, strsOf, intsOf, blsOf, b2n, Option.map_some, Option.bind_some, Option.map_none, Option.bind_none, truthy, reduceIte, if_true, if_false, isCont, Nat.reduceAdd, Nat.reduceSub, Nat.reduceLT, Nat.reduceMul, Nat.reducePow, Int.reduceLE, Int.reduceLT, Int.reduceToNat, Int.reduceAdd, Int.reduceSub, Int.reduceMul, Int.reduceNeg, Int.reducePow, Nat.zero_add, Nat.zero_lt_succ, and_self, and_true, true_and, decide_true, decide_false, Bool.false_and, Bool.and_false, Bool.true_and, Bool.and_true, Bool.not_true, Bool.not_false, Bool.or_false, Bool.or_true, Bool.false_or, Bool.true_or, eq_self, Bool.false_eq_true, String.reduceBEq, String.reduceEq, beq_self_eq_true, List.all_cons, List.all_nil, List.any_cons, List.any_nil, itemsOf, cmulB, cpowB, idxP, ixN', fget, m1, m2, e, hget, hset, hlt, sortP_strs, h00, l0, psl, m0]
end Lk

namespace Lk
theorem fin_of {m : Rs Fl} {v : PV} {o : Bool} {s : Sg} (h : m = rt (.ret v o) s) : fin m = some (.ok (v, o), s.mu) := by rw [h]; rfl
theorem natbits (a : Nat) : ∀ b : Nat, (a ||| b) = (a ^^^ b) + (a &&& b) := by
  induction a using Nat.strongRecOn with
  | ind a ih =>
    intro b
    by_cases h : a = 0
    · subst h; simp
    · have h1 := ih (a / 2) (by omega) (b / 2)
      have o1 := @Nat.or_div_two a b
      have o2 := @Nat.or_mod_two_eq_one a b
      have n1 := @Nat.and_div_two a b
      have n2 := @Nat.and_mod_two_eq_one a b
      have x1 := @Nat.xor_div_two a b
      have x2 := @Nat.xor_mod_two_eq_one a b
      omega
theorem bitXor_nat (a b : Nat) : PySem.Builtin.bitXor a b = ((a ^^^ b : Nat) : Int) := by
  have h := natbits a b
  have ha : PySem.Builtin.bitAnd a b = ((a &&& b : Nat) : Int) := by
    unfold PySem.Builtin.bitAnd
    simp only [show (0 : Int) ≤ a from by omega, show (0 : Int) ≤ b from by omega, decide_true]
    rfl
  have ho : PySem.Builtin.bitOr a b = ((a ||| b : Nat) : Int) := by
    unfold PySem.Builtin.bitOr PySem.Builtin.bitAnd PySem.Builtin.bitNot
    simp only [show ¬ (0 : Int) ≤ -↑a - 1 from by omega, show ¬ (0 : Int) ≤ -↑b - 1 from by omega, decide_false]
    have e1 : (-(-(a : Int) - 1) - 1).toNat = a := by omega
    have e2 : (-(-(b : Int) - 1) - 1).toNat = b := by omega
    rw [e1, e2]
    omega
  unfold PySem.Builtin.bitXor
  rw [ha, ho]; omega
theorem ex_bit : ∀ {S m : Nat}, 0 < m → m < 2 ^ S → ∃ i, i < S ∧ m / 2 ^ i % 2 = 1
  | 0, m, h0, h1 => by simp at h1; omega
  | S + 1, m, h0, h1 => by
    by_cases h : m / 2 ^ S % 2 = 1
    · exact ⟨S, by omega, h⟩
    · have hp : 0 < 2 ^ S := Nat.two_pow_pos S
      have h2 : m / 2 ^ S < 2 := by
        rw [Nat.div_lt_iff_lt_mul hp]
        rw [Nat.pow_succ] at h1; omega
      have h3 : m / 2 ^ S = 0 := by
        generalize m / 2 ^ S = q at h h2
        omega
      have h4 : m < 2 ^ S := by
        rcases Nat.div_eq_zero_iff.mp h3 with h | h
        · omega
        · exact h
      obtain ⟨i, h5, h6⟩ := ex_bit h0 h4
      exact ⟨i, by omega, h6⟩
/-- numbers of rows of p places -/
structure NumsOk (p : Nat) (l : List Int) : Prop where
  p1 : 1 ≤ p
  asc : AscI l
  b : ∀ x ∈ l, 0 ≤ x ∧ x < 2 ^ p
  ne : l ≠ []
  most : l.length ≤ 64
/-- a set of numbers below S that grows -/
structure KnOk (S : Nat) (l : List Int) (n : Nat) : Prop where
  nd : l.Nodup
  b : ∀ x ∈ l, 0 ≤ x ∧ x < S
  one : 1 ≤ l.length
  most : l.length ≤ n
theorem KnOk.add {S n : Nat} {l : List Int} (h : KnOk S l n) {v : Int} (h0 : 0 ≤ v) (h1 : v < S) : KnOk S (addI l v) (n + 1) :=
  ⟨addI_nodup h.nd, fun x hx => (mem_addI.mp hx).elim (h.b x) fun e => e ▸ ⟨h0, h1⟩, Nat.le_trans h.one addI_ge, Nat.le_trans addI_len (Nat.succ_le_succ h.most)⟩
theorem KnOk.le {S n m : Nat} {l : List Int} (h : KnOk S l n) (l : n ≤ m) : KnOk S ‹_› m := ⟨h.nd, h.b, h.one, Nat.le_trans h.most l⟩
theorem KnOk.nums {p S n : Nat} {l : List Int} (h : KnOk S l n) (hS : S = 2 ^ p) (hp : 1 ≤ p) (hn : n ≤ 64) : NumsOk p (sortI l) := by
  have hp' := (sortI_perm l)
  refine ⟨hp, sortI_asc h.nd, fun x hx => ?_, fun e => ?_, by rw [hp'.length_eq]; exact Nat.le_trans h.most hn⟩
  · have := h.b x (hp'.subset hx)
    rw [hS] at this
    exact_mod_cast this
  · have := hp'.length_eq
    rw [e] at this
    have := h.one
    simp at *; omega
/-- a sign of a number's row -/
theorem rowB_get {p n a : Nat} (h : a < p) : (rowB p n).getD a 0 = 48 + n / 2 ^ (p - 1 - a) % 2 := by
  unfold rowB
  rw [List.getD_eq_getElem?_getD, List.getElem?_map, List.getElem?_range h]; rfl
/-! ### rows and numbers -/
theorem rowB_succ {p n : Nat} : rowB (p + 1) n = (48 + n / 2 ^ p % 2) :: rowB p n := by
  unfold rowB
  rw [List.range_succ_eq_map, List.map_cons, List.map_map]
  congr 1
  refine List.map_congr_left fun a ha => ?_
  show 48 + n / 2 ^ (p + 1 - 1 - (a + 1)) % 2 = _
  rw [show p + 1 - 1 - (a + 1) = p - 1 - a from by omega]
theorem rowB_lt : ∀ {p m n : Nat}, m % 2 ^ p < n % 2 ^ p → ltL (rowB p m) (rowB p n) = true
  | 0, m, n, h => by simp [Nat.mod_one] at h
  | p + 1, m, n, h => by
    rw [Nat.pow_succ, Nat.mod_mul, Nat.mod_mul] at h
    rw [rowB_succ, rowB_succ]
    unfold ltL
    have h1 := Nat.mod_two_eq_zero_or_one (m / 2 ^ p)
    have h2 := Nat.mod_two_eq_zero_or_one (n / 2 ^ p)
    have b1 := Nat.mod_lt m (Nat.two_pow_pos p)
    have b2 := Nat.mod_lt n (Nat.two_pow_pos p)
    rcases h1 with h1 | h1 <;> rcases h2 with h2 | h2 <;> rw [h1, h2] at h <;> rw [h1, h2]
    · rw [if_neg (by omega), if_pos rfl]; exact rowB_lt (by omega)
    · rw [if_pos (by omega)]
    · exfalso; omega
    · rw [if_neg (by omega), if_pos rfl]; exact rowB_lt (by omega)
theorem rowB_inj {p m n : Nat} (hm : m < 2 ^ p) (hn : n < 2 ^ p) (h : rowB p m = rowB p n) : m = n := by
  rcases Nat.lt_trichotomy m n with q | q | q
  · have := rowB_lt (p := p) (m := m) (n := n) (by rw [Nat.mod_eq_of_lt hm, Nat.mod_eq_of_lt hn]; exact q)
    rw [h, ltL_irr] at this; cases this
  · exact q
  · have := rowB_lt (p := p) (m := n) (n := m) (by rw [Nat.mod_eq_of_lt hm, Nat.mod_eq_of_lt hn]; exact q)
    rw [h, ltL_irr] at this; cases this
theorem rowB_sg {p n : Nat} : (rowB p n).all sg01 = true := by
  unfold rowB
  rw [List.all_map, List.all_eq_true]
  intro a _
  show sg01 (48 + n / 2 ^ (p - 1 - a) % 2) = true
  rcases Nat.mod_two_eq_zero_or_one (n / 2 ^ (p - 1 - a)) with h | h <;> rw [h] <;> rfl
/-- the rows of numbers -/
def rowsOf (p : Nat) (l : List Int) : List (List Nat) := l.map fun x => rowB p x.toNat
theorem NumsOk.rows {p : Nat} {l : List Int} (h : NumsOk p l) (hp : p ≤ 10) : RowsOk p (rowsOf p l) ∧ AscS (rowsOf p l) := by
  have asc : AscS (rowsOf p l) := by
    unfold rowsOf AscS
    rw [List.pairwise_map]
    refine List.Pairwise.imp_of_mem (fun {a b} ha hb hab => ?_) h.asc
    have h1 := h.b a ha
    have h2 := h.b b hb
    obtain ⟨x, rfl⟩ := Int.eq_ofNat_of_zero_le h1.1
    obtain ⟨y, rfl⟩ := Int.eq_ofNat_of_zero_le h2.1
    have hx : x < 2 ^ p := by exact_mod_cast h1.2
    have hy : y < 2 ^ p := by exact_mod_cast h2.2
    refine rowB_lt ?_
    rw [Int.toNat_natCast, Int.toNat_natCast, Nat.mod_eq_of_lt hx, Nat.mod_eq_of_lt hy]
    omega
  refine ⟨⟨h.p1, hp, fun r hr => ?_, fun r hr => ?_, ascS_nodup asc, fun e => ?_, ?_⟩, asc⟩
  · obtain ⟨x, _, rfl⟩ := List.mem_map.mp hr; exact rowB_len
  · obtain ⟨x, _, rfl⟩ := List.mem_map.mp hr; exact rowB_sg
  · exact h.ne (List.map_eq_nil_iff.mp e)
  · unfold rowsOf; rw [List.length_map]; exact h.most
end Lk

namespace Lk
theorem rev_ok {xs : List PV} : xs.reverse = xs.reverse := rfl
/-- all rows of a mask -/
theorem rows3_ok {d : PV} (hd : Dk d) (rest : List PV) : ∃ (p : Nat) (nums : List Int) (d' : PV), p ≤ 4 ∧ NumsOk p nums ∧ Dk d' ∧ evF x__law_rows [.ref 0] (d :: rest) = some (.ok (.lst ((rowsOf p nums).map .str), true), d' :: rest) := by
  obtain ⟨v, d2, v0, v1, hd2, e2⟩ := pick_ok hd rest (m := 4) (by decide) (by decide)
  obtain ⟨p, hp⟩ : ∃ p : Nat, (1 : Int) + v = p := ⟨(1 + v).toNat, by omega⟩
  obtain ⟨S, hS⟩ : ∃ S : Nat, S = 2 ^ p := ⟨_, rfl⟩
  obtain ⟨Q, hQ⟩ : ∃ Q : Nat, Q = 2 ^ S := ⟨_, rfl⟩
  have hp4 : p ≤ 4 := by omega
  have hp1 : 1 ≤ p := by omega
  have hS16 : S ≤ 16 := by rw [hS]; exact Nat.pow_le_pow_right (by decide) hp4
  have hS2 : 2 ≤ S := by rw [hS]; exact Nat.pow_le_pow_right (n := 2) (by decide) hp1
  have hQ16 : Q ≤ 65536 := by rw [hQ]; exact Nat.pow_le_pow_right (n := 2) (by decide) hS16
  have hQ2 : 4 ≤ Q := by rw [hQ]; exact Nat.pow_le_pow_right (n := 2) (by decide) hS2
  have s1 : (1 : Int) * 2 ^ (p : Int).toNat = S := by rw [hS]; simp
  have s2 : (1 : Int) * 2 ^ (S : Int).toNat = Q := by rw [hQ]; simp
  obtain ⟨w, d3, w0, w1, hd3, e3⟩ := pick_ok hd2 rest (m := (Q : Int) - 1) (by omega) (by omega)
  obtain ⟨m, hm⟩ : ∃ m : Nat, (1 : Int) + w = m := ⟨(1 + w).toNat, by omega⟩
  have p0 : (0 : Int) ≤ p := by omega
  have p6 : (p : Int) ≤ 1000000 := by omega
  have S0 : (0 : Int) ≤ S := by omega
  have S6 : (S : Int) ≤ 1000000 := by omega
  have hr : rgB 0 S = true := rgB_ok (by decide) (by decide) (by omega) (by omega)
  let env : List Cell := [.val (.ref 0), .val (.int p), .val (.int S), .val (.int m), .non]
  have hc : compS [4] (.name 4) (.cmp .eq (.bin .band (.bin .shr (.var 3) (.var 4)) (.cst (.int 1))) (.cst (.int 1))) x__law_rows_e0 (fun _ _ => none) (rangeP 0 S) ⟨env, d3 :: rest⟩ =
      rt ((rowsOf p (((List.range S).filter fun i => m / 2 ^ i % 2 == 1).map Int.ofNat)).map PV.str) ⟨env, d3 :: rest⟩ := by
    rw [rangeP_0, compS_pure (fun x => match x with | .int i => if m / 2 ^ i.toNat % 2 == 1 then some (.str (rowB p i.toNat)) else none | _ => none) rfl ?_ (by simp [SL]; omega)]
    · congr 1
      unfold rowsOf
      rw [List.filterMap_map, List.map_map, List.map_map]
      exact fm_filter (fun i => m / 2 ^ i % 2 == 1) _ fun i => rfl
    · intro x hx
      obtain ⟨i, hi, rfl⟩ := List.mem_map.mp hx
      have i0 : (0 : Int) ≤ i := by omega
      have eb : (m : Int) / 2 ^ i % 2 = ((m / 2 ^ i % 2 : Nat) : Int) := by norm_cast
      have er := row_ok i p (d3 :: rest) (by omega)
      by_cases h : m / 2 ^ i % 2 = 1
      · have h' : ((m / 2 ^ i % 2 : Nat) : Int) = 1 := by omega
        refine ⟨[.val (.ref 0), .val (.int p), .val (.int S), .val (.int m), .val (.int i)], ?_, rfl⟩
        unfold x__law_rows_e0
        simp (decide := true) only [cmp_ei, cmp_ni, cmp_es, cmp_ns, cmp_lt, cmp_le, cmp_gt, cmp_ge, cmp_is, cmp_isn, cmp_in, cmp_nin, ↓evR_comp, ↓evR_dcomp, ↓evS_for, ↓evS_whl, turnS, turnD, evF, fixN, evSs, evS, evR, evA, evL, evI, plc, tst, fz, ↓bd_k, ↓op1_k, bdk_rt, bdk_some, bdk_exc, fin_exc, ↓evS_try, tryS_rt, tryS_exc, evH, evX, excIs, exLt, wipeX, List.zip_nil_left, List.reverse_nil, List.reverse_cons, List.zip_cons_cons, op1k_some, setB, Sg.look, Sg.lookL, drf, Sg.put, entry, fin_ret, fin_nx, bindT, bindTs, callR, List.map_cons, List.map_nil, List.length_cons, List.length_nil, List.length_map, List.replicate_succ, List.replicate_zero, List.getElem?_cons_zero, List.getElem?_cons_succ, List.cons_append, List.nil_append, List.set_cons_zero, List.set_cons_succ, binP, binI, set_lst, p_len_l, p_len_t, p_len_k, p_len_s, p_int_i, p_int_b, p_tup_l, p_tup_t, p_lst_l, p_lst_t, p_srt_l, p_all_l, p_any_l, p_sum_l, metK, mutK, sameK, isinP, isOf, tyName, fput, putFP, keyOf, keyOf1, kindOf, part, isP, strsOf, intsOf, blsOf, b2n, Option.map_some, Option.bind_some, Option.map_none, Option.bind_none, truthy, reduceIte, if_true, if_false, isCont, Nat.reduceAdd, Nat.reduceSub, Nat.reduceLT, Nat.reduceMul, Nat.reducePow, Int.reduceLE, Int.reduceLT, Int.reduceToNat, Int.reduceAdd, Int.reduceSub, Int.reduceMul, Int.reduceNeg, Int.reducePow, Nat.zero_add, Nat.zero_lt_succ, and_self, and_true, true_and, decide_true, decide_false, Bool.false_and, Bool.and_false, Bool.true_and, Bool.and_true, Bool.not_true, Bool.not_false, Bool.or_false, Bool.or_true, Bool.false_or, Bool.true_or, eq_self, Bool.false_eq_true, String.reduceBEq, String.reduceEq, beq_self_eq_true, List.all_cons, List.all_nil, List.any_cons, List.any_nil, itemsOf, cmulB, cpowB, wipeE, i0, Int.toNat_natCast, bitAnd_one, eb, h', h, env, beq_self_eq_true, er]
      · have h' : ¬ ((m / 2 ^ i % 2 : Nat) : Int) = 1 := by omega
        have h'' : (m / 2 ^ i % 2 == 1) = false := by rw [beq_eq_false_iff_ne]; exact h
        refine ⟨[.val (.ref 0), .val (.int p), .val (.int S), .val (.int m), .val (.int i)], ?_, rfl⟩
        simp (decide := true) only [cmp_ei, cmp_ni, cmp_es, cmp_ns, cmp_lt, cmp_le, cmp_gt, cmp_ge, cmp_is, cmp_isn, cmp_in, cmp_nin, ↓evR_comp, ↓evR_dcomp, ↓evS_for, ↓evS_whl, turnS, turnD, evF, fixN, evSs, evS, evR, evA, evL, evI, plc, tst, fz, ↓bd_k, ↓op1_k, bdk_rt, bdk_some, bdk_exc, fin_exc, ↓evS_try, tryS_rt, tryS_exc, evH, evX, excIs, exLt, wipeX, List.zip_nil_left, List.reverse_nil, List.reverse_cons, List.zip_cons_cons, op1k_some, setB, Sg.look, Sg.lookL, drf, Sg.put, entry, fin_ret, fin_nx, bindT, bindTs, callR, List.map_cons, List.map_nil, List.length_cons, List.length_nil, List.length_map, List.replicate_succ, List.replicate_zero, List.getElem?_cons_zero, List.getElem?_cons_succ, List.cons_append, List.nil_append, List.set_cons_zero, List.set_cons_succ, binP, binI, set_lst, p_len_l, p_len_t, p_len_k, p_len_s, p_int_i, p_int_b, p_tup_l, p_tup_t, p_lst_l, p_lst_t, p_srt_l, p_all_l, p_any_l, p_sum_l, metK, mutK, sameK, isinP, isOf, tyName, fput, putFP, keyOf, keyOf1, kindOf, part, isP, strsOf, intsOf, blsOf, b2n, Option.map_some, Option.bind_some, Option.map_none, Option.bind_none, truthy, reduceIte, if_true, if_false, isCont, Nat.reduceAdd, Nat.reduceSub, Nat.reduceLT, Nat.reduceMul, Nat.reducePow, Int.reduceLE, Int.reduceLT, Int.reduceToNat, Int.reduceAdd, Int.reduceSub, Int.reduceMul, Int.reduceNeg, Int.reducePow, Nat.zero_add, Nat.zero_lt_succ, and_self, and_true, true_and, decide_true, decide_false, Bool.false_and, Bool.and_false, Bool.true_and, Bool.and_true, Bool.not_true, Bool.not_false, Bool.or_false, Bool.or_true, Bool.false_or, Bool.true_or, eq_self, Bool.false_eq_true, String.reduceBEq, String.reduceEq, beq_self_eq_true, List.all_cons, List.all_nil, List.any_cons, List.any_nil, itemsOf, cmulB, cpowB, wipeE, i0, Int.toNat_natCast, bitAnd_one, eb, h', h'', env]
  refine ⟨p, ((List.range S).filter fun i => m / 2 ^ i % 2 == 1).map Int.ofNat, d3, hp4, ⟨hp1, ?_, fun x hx => ?_, fun e => ?_, ?_⟩, hd3, ?_⟩
  · rw [AscI, List.pairwise_map]
    exact (List.pairwise_lt_range.filter _).imp fun h => Int.ofNat_lt.mpr h
  · obtain ⟨i, hi, rfl⟩ := List.mem_map.mp hx
    have := List.mem_range.mp (List.mem_filter.mp hi).1
    rw [hS] at this
    exact ⟨Int.natCast_nonneg i, show ((i : Nat) : Int) < (2 : Int) ^ p from by exact_mod_cast this⟩
  · obtain ⟨i, h1, h2⟩ := ex_bit (S := S) (m := m) (by omega) (by rw [← hQ]; omega)
    rw [List.map_eq_nil_iff] at e
    have : i ∈ (List.range S).filter fun i => m / 2 ^ i % 2 == 1 := List.mem_filter.mpr ⟨List.mem_range.mpr h1, by simpa using h2⟩
    rw [e] at this; cases this
  · rw [List.length_map]
    exact Nat.le_trans (List.length_filter_le _ _) (by rw [List.length_range]; omega)
  · unfold x__law_rows
    simp only [env] at hc
    simp (decide := true) only [cmp_ei, cmp_ni, cmp_es, cmp_ns, cmp_lt, cmp_le, cmp_gt, cmp_ge, cmp_is, cmp_isn, cmp_in, cmp_nin, ↓evR_comp, ↓evR_dcomp, ↓evS_for, ↓evS_whl, turnS, turnD, evF, fixN, evSs, evS, evR, evA, evL, evI, plc, tst, fz, ↓bd_k, ↓op1_k, bdk_rt, bdk_some, bdk_exc, fin_exc, ↓evS_try, tryS_rt, tryS_exc, evH, evX, excIs, exLt, wipeX, List.zip_nil_left, List.reverse_nil, List.reverse_cons, List.zip_cons_cons, op1k_some, setB, Sg.look, Sg.lookL, drf, Sg.put, entry, fin_ret, fin_nx, bindT, bindTs, callR, List.map_cons, List.map_nil, List.length_cons, List.length_nil, List.length_map, List.replicate_succ, List.replicate_zero, List.getElem?_cons_zero, List.getElem?_cons_succ, List.cons_append, List.nil_append, List.set_cons_zero, List.set_cons_succ, binP, binI, set_lst, p_len_l, p_len_t, p_len_k, p_len_s, p_int_i, p_int_b, p_tup_l, p_tup_t, p_lst_l, p_lst_t, p_srt_l, p_all_l, p_any_l, p_sum_l, metK, mutK, sameK, isinP, isOf, tyName, fput, putFP, keyOf, keyOf1, kindOf, part, isP, strsOf, intsOf, blsOf, b2n, Option.map_some, Option.bind_some, Option.map_none, Option.bind_none, truthy, reduceIte, if_true, if_false, isCont, Nat.reduceAdd, Nat.reduceSub, Nat.reduceLT, Nat.reduceMul, Nat.reducePow, Int.reduceLE, Int.reduceLT, Int.reduceToNat, Int.reduceAdd, Int.reduceSub, Int.reduceMul, Int.reduceNeg, Int.reducePow, Nat.zero_add, Nat.zero_lt_succ, and_self, and_true, true_and, decide_true, decide_false, Bool.false_and, Bool.and_false, Bool.true_and, Bool.and_true, Bool.not_true, Bool.not_false, Bool.or_false, Bool.or_true, Bool.false_or, Bool.true_or, eq_self, Bool.false_eq_true, String.reduceBEq, String.reduceEq, beq_self_eq_true, List.all_cons, List.all_nil, List.any_cons, List.any_nil, itemsOf, cmulB, cpowB, e2, e3, hp, p0, p6, s1, S0, S6, s2, hm, hr, hc]
end Lk

namespace Lk
/-- a lot, with what it knows -/
def lotK (p : Nat) (rs : List (List Nat)) (kn : PV) : PV := .ins "Lot" [("rows", .tup (rs.map .str)), ("places", .int p), ("known", kn)]
theorem lotK_rows {p : Nat} {rs : List (List Nat)} {kn : PV} : fget (lotK p rs kn) "Lot" "rows" = some (.tup (rs.map .str)) := rfl
theorem lotK_places {p : Nat} {rs : List (List Nat)} {kn : PV} : fget (lotK p rs kn) "Lot" "places" = some (.int p) := rfl
theorem lotK_known {p : Nat} {rs : List (List Nat)} {kn : PV} : fget (lotK p rs kn) "Lot" "known" = some kn := rfl
/-- rows of a lot, ascending, and where it stands -/
structure LC (p : Nat) (rs : List (List Nat)) (kn : PV) (mu : List PV) (k : Nat) : Prop where
  ro : RowsOk p rs
  asc : AscS rs
  at_ : mu[k]? = some (lotK p rs kn)
theorem sg01_c {s : List Nat} (h : s.all sg01 = true) : ∀ c ∈ s, c < 1114112 := fun c hc => by
  have := List.all_eq_true.mp h c hc
  unfold sg01 at this
  simp only [Bool.or_eq_true, beq_iff_eq] at this
  omega
def markB (c : Nat) : Bool := sg01 c || c == 46
theorem markB_c {s : List Nat} (h : s.all markB = true) : ∀ c ∈ s, c < 1114112 := fun c hc => by
  have := List.all_eq_true.mp h c hc
  unfold markB sg01 at this
  simp only [Bool.or_eq_true, beq_iff_eq] at this
  omega
theorem RowsOk.pS {p : Nat} {rs : List (List Nat)} (h : RowsOk p rs) : p ≤ SL := by have := h.p10; simp [SL]; omega
theorem RowsOk.mS {p : Nat} {rs : List (List Nat)} (h : RowsOk p rs) : rs.length ≤ SL := by have := h.most; simp [SL]; omega
theorem RowsOk.lS {p : Nat} {rs : List (List Nat)} (h : RowsOk p rs) : ∀ r ∈ rs, r.length ≤ SL := fun r hr => by rw [h.len r hr]; exact h.pS
theorem RowsOk.c {p : Nat} {rs : List (List Nat)} (h : RowsOk p rs) : ∀ r ∈ rs, ∀ c ∈ r, c < 1114112 := fun r hr => sg01_c (h.sgn r hr)
def fitsB (r st : List Nat) : Bool := (r.zip st).all fun p => p.2 == 46 || p.2 == p.1
def rowsAt (rs : List (List Nat)) (st : List Nat) : List (List Nat) := rs.filter fun r => fitsB r st
theorem rowsAt_sub {rs : List (List Nat)} {st r : List Nat} (h : r ∈ rowsAt rs st) : r ∈ rs ∧ fitsB r st = true := List.mem_filter.mp h
theorem fits_ok (r st : List Nat) (mu : List PV) (hr : r.length ≤ SL) : evF x_fits [.str r, .str st] mu = some (.ok (.bl (fitsB r st), false), mu) := by
  rw [x_fits, ev_fn (by rfl)]
  simp (decide := true) (dsimp := false) only [cmp_ei, cmp_ni, cmp_es, cmp_ns, cmp_lt, cmp_le, cmp_gt, cmp_ge, cmp_is, cmp_isn, cmp_in, cmp_nin, ↓evR_comp, ↓evR_dcomp, ↓evR_tand, ↓evR_tor, ↓evR_and, ↓evR_or, ↓evR_ite, ↓evR_cmp2, ↓evS_ifs, iteB_t, iteB_f, iteK_t, iteK_f, iB_and, iB_and2, iB_or, iB_or2, iB_int, iB_str, iB_same, str1_eq, natc_eq, blsOf_f, strsOf_f, intsOf_f, blsOf_map, strsOf_map, intsOf_map, rangeP_n, ov_t, ov_f, wipeE, ix_tup0, ix_tup1, ix_tup2, ix_tup3, ix_lst0, ix_lst1, ix_lst2, ix_lst3, in01, List.all_map, List.any_map, ↓evS_for, ↓evS_whl, turnS_b, turnD_b, evF, fixN, evSs, evS, evR, evA, evL, evI, plc, tst, fz, ↓bd_k, ↓op1_k, bdk_rt, bdk_some, bdk_exc, fin_exc, ↓evS_try, tryS_rt, tryS_exc, evH, evX, excIs, exLt, wipeX, List.zip_nil_left, List.reverse_nil, List.reverse_cons, List.zip_cons_cons, op1k_some, setB, Sg.look, Sg.lookL, drf, Sg.put, entry, fin_ret, fin_nx, bindT, bindTs, callR, List.map_cons, List.map_nil, List.length_cons, List.length_nil, List.length_map, List.replicate_succ, List.replicate_zero, List.getElem?_cons_zero, List.getElem?_cons_succ, List.cons_append, List.nil_append, List.set_cons_zero, List.set_cons_succ, binP, binI, set_lst, p_len_l, p_len_t, p_len_k, p_len_s, p_int_i, p_int_b, p_tup_l, p_tup_t, p_lst_l, p_lst_t, p_srt_l, p_all_f, p_any_f, p_sum_l, metK, mutK, sameK, isinP, isOf, tyName, fput, putFP, keyOf, keyOf1, kindOf, part, isP, strsOf, intsOf, blsOf, b2n, Option.map_some, Option.bind_some, Option.map_none, Option.bind_none, truthy, reduceIte, if_true, if_false, isCont, Nat.reduceAdd, Nat.reduceSub, Nat.reduceLT, Nat.reduceMul, Nat.reducePow, Int.reduceLE, Int.reduceLT, Int.reduceToNat, Int.reduceAdd, Int.reduceSub, Int.reduceMul, Int.reduceNeg, Int.reducePow, Nat.zero_add, Nat.zero_lt_succ, and_self, and_true, true_and, decide_true, decide_false, Bool.false_and, Bool.and_false, Bool.true_and, Bool.and_true, Bool.not_true, Bool.not_false, Bool.or_false, Bool.or_true, Bool.false_or, Bool.true_or, eq_self, Bool.false_eq_true, String.reduceBEq, String.reduceEq, beq_self_eq_true, List.all_cons, List.all_nil, List.any_cons, List.any_nil, itemsOf, cmulB, cpowB]
  rw [cm_map (out := ?o32) (env' := ?e32) ?h32 rfl (by first | assumption | (simp only [List.length_map, List.length_range, List.length_zip, List.length_zipIdx, List.length_cons, List.length_nil, List.length_reverse]; first | assumption | omega | (simp only [SL]; omega) | (simp only [SL] at *; omega)))]
  case h32 =>
    intro x hx
    constructor
    · rw [x_fits_e0]; simp (decide := true) (dsimp := false) only [cmp_ei, cmp_ni, cmp_es, cmp_ns, cmp_lt, cmp_le, cmp_gt, cmp_ge, cmp_is, cmp_isn, cmp_in, cmp_nin, ↓evR_comp, ↓evR_dcomp, ↓evR_tand, ↓evR_tor, ↓evR_and, ↓evR_or, ↓evR_ite, ↓evR_cmp2, ↓evS_ifs, iteB_t, iteB_f, iteK_t, iteK_f, iB_and, iB_and2, iB_or, iB_or2, iB_int, iB_str, iB_same, str1_eq, natc_eq, blsOf_f, strsOf_f, intsOf_f, blsOf_map, strsOf_map, intsOf_map, rangeP_n, ov_t, ov_f, wipeE, ix_tup0, ix_tup1, ix_tup2, ix_tup3, ix_lst0, ix_lst1, ix_lst2, ix_lst3, in01, List.all_map, List.any_map, ↓evS_for, ↓evS_whl, turnS_b, turnD_b, evF, fixN, evSs, evS, evR, evA, evL, evI, plc, tst, fz, ↓bd_k, ↓op1_k, bdk_rt, bdk_some, bdk_exc, fin_exc, ↓evS_try, tryS_rt, tryS_exc, evH, evX, excIs, exLt, wipeX, List.zip_nil_left, List.reverse_nil, List.reverse_cons, List.zip_cons_cons, op1k_some, setB, Sg.look, Sg.lookL, drf, Sg.put, entry, fin_ret, fin_nx, bindT, bindTs, callR, List.map_cons, List.map_nil, List.length_cons, List.length_nil, List.length_map, List.replicate_succ, List.replicate_zero, List.getElem?_cons_zero, List.getElem?_cons_succ, List.cons_append, List.nil_append, List.set_cons_zero, List.set_cons_succ, binP, binI, set_lst, p_len_l, p_len_t, p_len_k, p_len_s, p_int_i, p_int_b, p_tup_l, p_tup_t, p_lst_l, p_lst_t, p_srt_l, p_all_f, p_any_f, p_sum_l, metK, mutK, sameK, isinP, isOf, tyName, fput, putFP, keyOf, keyOf1, kindOf, part, isP, strsOf, intsOf, blsOf, b2n, Option.map_some, Option.bind_some, Option.map_none, Option.bind_none, truthy, reduceIte, if_true, if_false, isCont, Nat.reduceAdd, Nat.reduceSub, Nat.reduceLT, Nat.reduceMul, Nat.reducePow, Int.reduceLE, Int.reduceLT, Int.reduceToNat, Int.reduceAdd, Int.reduceSub, Int.reduceMul, Int.reduceNeg, Int.reducePow, Nat.zero_add, Nat.zero_lt_succ, and_self, and_true, true_and, decide_true, decide_false, Bool.false_and, Bool.and_false, Bool.true_and, Bool.and_true, Bool.not_true, Bool.not_false, Bool.or_false, Bool.or_true, Bool.false_or, Bool.true_or, eq_self, Bool.false_eq_true, String.reduceBEq, String.reduceEq, beq_self_eq_true, List.all_cons, List.all_nil, List.any_cons, List.any_nil, itemsOf, cmulB, cpowB]; try rfl
    · rfl
  simp (decide := true) (dsimp := false) only [cmp_ei, cmp_ni, cmp_es, cmp_ns, cmp_lt, cmp_le, cmp_gt, cmp_ge, cmp_is, cmp_isn, cmp_in, cmp_nin, ↓evR_comp, ↓evR_dcomp, ↓evR_tand, ↓evR_tor, ↓evR_and, ↓evR_or, ↓evR_ite, ↓evR_cmp2, ↓evS_ifs, iteB_t, iteB_f, iteK_t, iteK_f, iB_and, iB_and2, iB_or, iB_or2, iB_int, iB_str, iB_same, str1_eq, natc_eq, blsOf_f, strsOf_f, intsOf_f, blsOf_map, strsOf_map, intsOf_map, rangeP_n, ov_t, ov_f, wipeE, ix_tup0, ix_tup1, ix_tup2, ix_tup3, ix_lst0, ix_lst1, ix_lst2, ix_lst3, in01, List.all_map, List.any_map, ↓evS_for, ↓evS_whl, turnS_b, turnD_b, evF, fixN, evSs, evS, evR, evA, evL, evI, plc, tst, fz, ↓bd_k, ↓op1_k, bdk_rt, bdk_some, bdk_exc, fin_exc, ↓evS_try, tryS_rt, tryS_exc, evH, evX, excIs, exLt, wipeX, List.zip_nil_left, List.reverse_nil, List.reverse_cons, List.zip_cons_cons, op1k_some, setB, Sg.look, Sg.lookL, drf, Sg.put, entry, fin_ret, fin_nx, bindT, bindTs, callR, List.map_cons, List.map_nil, List.length_cons, List.length_nil, List.length_map, List.replicate_succ, List.replicate_zero, List.getElem?_cons_zero, List.getElem?_cons_succ, List.cons_append, List.nil_append, List.set_cons_zero, List.set_cons_succ, binP, binI, set_lst, p_len_l, p_len_t, p_len_k, p_len_s, p_int_i, p_int_b, p_tup_l, p_tup_t, p_lst_l, p_lst_t, p_srt_l, p_all_f, p_any_f, p_sum_l, metK, mutK, sameK, isinP, isOf, tyName, fput, putFP, keyOf, keyOf1, kindOf, part, isP, strsOf, intsOf, blsOf, b2n, Option.map_some, Option.bind_some, Option.map_none, Option.bind_none, truthy, reduceIte, if_true, if_false, isCont, Nat.reduceAdd, Nat.reduceSub, Nat.reduceLT, Nat.reduceMul, Nat.reducePow, Int.reduceLE, Int.reduceLT, Int.reduceToNat, Int.reduceAdd, Int.reduceSub, Int.reduceMul, Int.reduceNeg, Int.reducePow, Nat.zero_add, Nat.zero_lt_succ, and_self, and_true, true_and, decide_true, decide_false, Bool.false_and, Bool.and_false, Bool.true_and, Bool.and_true, Bool.not_true, Bool.not_false, Bool.or_false, Bool.or_true, Bool.false_or, Bool.true_or, eq_self, Bool.false_eq_true, String.reduceBEq, String.reduceEq, beq_self_eq_true, List.all_cons, List.all_nil, List.any_cons, List.any_nil, itemsOf, cmulB, cpowB]
  rfl
theorem rows_at_ok {p k : Nat} {rs : List (List Nat)} {kn : PV} {mu : List PV} (L : LC p rs kn mu k) (st : List Nat) : evF x_rows_at [.ref k, .str st] mu = some (.ok (.tup ((rowsAt rs st).map .str), false), mu) := by
  rw [x_rows_at, ev_fn (by rfl)]
  simp (decide := true) (dsimp := false) only [cmp_ei, cmp_ni, cmp_es, cmp_ns, cmp_lt, cmp_le, cmp_gt, cmp_ge, cmp_is, cmp_isn, cmp_in, cmp_nin, ↓evR_comp, ↓evR_dcomp, ↓evR_tand, ↓evR_tor, ↓evR_and, ↓evR_or, ↓evR_ite, ↓evR_cmp2, ↓evS_ifs, iteB_t, iteB_f, iteK_t, iteK_f, iB_and, iB_and2, iB_or, iB_or2, iB_int, iB_str, iB_same, str1_eq, natc_eq, blsOf_f, strsOf_f, intsOf_f, blsOf_map, strsOf_map, intsOf_map, rangeP_n, ov_t, ov_f, wipeE, ix_tup0, ix_tup1, ix_tup2, ix_tup3, ix_lst0, ix_lst1, ix_lst2, ix_lst3, in01, List.all_map, List.any_map, ↓evS_for, ↓evS_whl, turnS_b, turnD_b, evF, fixN, evSs, evS, evR, evA, evL, evI, plc, tst, fz, ↓bd_k, ↓op1_k, bdk_rt, bdk_some, bdk_exc, fin_exc, ↓evS_try, tryS_rt, tryS_exc, evH, evX, excIs, exLt, wipeX, List.zip_nil_left, List.reverse_nil, List.reverse_cons, List.zip_cons_cons, op1k_some, setB, Sg.look, Sg.lookL, drf, Sg.put, entry, fin_ret, fin_nx, bindT, bindTs, callR, List.map_cons, List.map_nil, List.length_cons, List.length_nil, List.length_map, List.replicate_succ, List.replicate_zero, List.getElem?_cons_zero, List.getElem?_cons_succ, List.cons_append, List.nil_append, List.set_cons_zero, List.set_cons_succ, binP, binI, set_lst, p_len_l, p_len_t, p_len_k, p_len_s, p_int_i, p_int_b, p_tup_l, p_tup_t, p_lst_l, p_lst_t, p_srt_l, p_all_f, p_any_f, p_sum_l, metK, mutK, sameK, isinP, isOf, tyName, fput, putFP, keyOf, keyOf1, kindOf, part, isP, strsOf, intsOf, blsOf, b2n, Option.map_some, Option.bind_some, Option.map_none, Option.bind_none, truthy, reduceIte, if_true, if_false, isCont, Nat.reduceAdd, Nat.reduceSub, Nat.reduceLT, Nat.reduceMul, Nat.reducePow, Int.reduceLE, Int.reduceLT, Int.reduceToNat, Int.reduceAdd, Int.reduceSub, Int.reduceMul, Int.reduceNeg, Int.reducePow, Nat.zero_add, Nat.zero_lt_succ, and_self, and_true, true_and, decide_true, decide_false, Bool.false_and, Bool.and_false, Bool.true_and, Bool.and_true, Bool.not_true, Bool.not_false, Bool.or_false, Bool.or_true, Bool.false_or, Bool.true_or, eq_self, Bool.false_eq_true, String.reduceBEq, String.reduceEq, beq_self_eq_true, List.all_cons, List.all_nil, List.any_cons, List.any_nil, itemsOf, cmulB, cpowB, L.at_, lotK_rows]
  have hm := L.ro.mS
  rw [cm_fi (P := ?P44) (out := ?o44) (env' := ?e44) ?h44 rfl (by first | assumption | (simp only [List.length_map, List.length_range, List.length_zip, List.length_zipIdx, List.length_cons, List.length_nil, List.length_reverse]; first | assumption | omega | (simp only [SL]; omega) | (simp only [SL] at *; omega)))]
  case h44 =>
    intro x hx
    constructor
    · simp (decide := true) (dsimp := false) only [cmp_ei, cmp_ni, cmp_es, cmp_ns, cmp_lt, cmp_le, cmp_gt, cmp_ge, cmp_is, cmp_isn, cmp_in, cmp_nin, ↓evR_comp, ↓evR_dcomp, ↓evR_tand, ↓evR_tor, ↓evR_and, ↓evR_or, ↓evR_ite, ↓evR_cmp2, ↓evS_ifs, iteB_t, iteB_f, iteK_t, iteK_f, iB_and, iB_and2, iB_or, iB_or2, iB_int, iB_str, iB_same, str1_eq, natc_eq, blsOf_f, strsOf_f, intsOf_f, blsOf_map, strsOf_map, intsOf_map, rangeP_n, ov_t, ov_f, wipeE, ix_tup0, ix_tup1, ix_tup2, ix_tup3, ix_lst0, ix_lst1, ix_lst2, ix_lst3, in01, List.all_map, List.any_map, ↓evS_for, ↓evS_whl, turnS_b, turnD_b, evF, fixN, evSs, evS, evR, evA, evL, evI, plc, tst, fz, ↓bd_k, ↓op1_k, bdk_rt, bdk_some, bdk_exc, fin_exc, ↓evS_try, tryS_rt, tryS_exc, evH, evX, excIs, exLt, wipeX, List.zip_nil_left, List.reverse_nil, List.reverse_cons, List.zip_cons_cons, op1k_some, setB, Sg.look, Sg.lookL, drf, Sg.put, entry, fin_ret, fin_nx, bindT, bindTs, callR, List.map_cons, List.map_nil, List.length_cons, List.length_nil, List.length_map, List.replicate_succ, List.replicate_zero, List.getElem?_cons_zero, List.getElem?_cons_succ, List.cons_append, List.nil_append, List.set_cons_zero, List.set_cons_succ, binP, binI, set_lst, p_len_l, p_len_t, p_len_k, p_len_s, p_int_i, p_int_b, p_tup_l, p_tup_t, p_lst_l, p_lst_t, p_srt_l, p_all_f, p_any_f, p_sum_l, metK, mutK, sameK, isinP, isOf, tyName, fput, putFP, keyOf, keyOf1, kindOf, part, isP, strsOf, intsOf, blsOf, b2n, Option.map_some, Option.bind_some, Option.map_none, Option.bind_none, truthy, reduceIte, if_true, if_false, isCont, Nat.reduceAdd, Nat.reduceSub, Nat.reduceLT, Nat.reduceMul, Nat.reducePow, Int.reduceLE, Int.reduceLT, Int.reduceToNat, Int.reduceAdd, Int.reduceSub, Int.reduceMul, Int.reduceNeg, Int.reducePow, Nat.zero_add, Nat.zero_lt_succ, and_self, and_true, true_and, decide_true, decide_false, Bool.false_and, Bool.and_false, Bool.true_and, Bool.and_true, Bool.not_true, Bool.not_false, Bool.or_false, Bool.or_true, Bool.false_or, Bool.true_or, eq_self, Bool.false_eq_true, String.reduceBEq, String.reduceEq, beq_self_eq_true, List.all_cons, List.all_nil, List.any_cons, List.any_nil, itemsOf, cmulB, cpowB, fits_ok x st mu (L.ro.lS x hx)]; try rfl
    · rfl
  simp (decide := true) (dsimp := false) only [cmp_ei, cmp_ni, cmp_es, cmp_ns, cmp_lt, cmp_le, cmp_gt, cmp_ge, cmp_is, cmp_isn, cmp_in, cmp_nin, ↓evR_comp, ↓evR_dcomp, ↓evR_tand, ↓evR_tor, ↓evR_and, ↓evR_or, ↓evR_ite, ↓evR_cmp2, ↓evS_ifs, iteB_t, iteB_f, iteK_t, iteK_f, iB_and, iB_and2, iB_or, iB_or2, iB_int, iB_str, iB_same, str1_eq, natc_eq, blsOf_f, strsOf_f, intsOf_f, blsOf_map, strsOf_map, intsOf_map, rangeP_n, ov_t, ov_f, wipeE, ix_tup0, ix_tup1, ix_tup2, ix_tup3, ix_lst0, ix_lst1, ix_lst2, ix_lst3, in01, List.all_map, List.any_map, ↓evS_for, ↓evS_whl, turnS_b, turnD_b, evF, fixN, evSs, evS, evR, evA, evL, evI, plc, tst, fz, ↓bd_k, ↓op1_k, bdk_rt, bdk_some, bdk_exc, fin_exc, ↓evS_try, tryS_rt, tryS_exc, evH, evX, excIs, exLt, wipeX, List.zip_nil_left, List.reverse_nil, List.reverse_cons, List.zip_cons_cons, op1k_some, setB, Sg.look, Sg.lookL, drf, Sg.put, entry, fin_ret, fin_nx, bindT, bindTs, callR, List.map_cons, List.map_nil, List.length_cons, List.length_nil, List.length_map, List.replicate_succ, List.replicate_zero, List.getElem?_cons_zero, List.getElem?_cons_succ, List.cons_append, List.nil_append, List.set_cons_zero, List.set_cons_succ, binP, binI, set_lst, p_len_l, p_len_t, p_len_k, p_len_s, p_int_i, p_int_b, p_tup_l, p_tup_t, p_lst_l, p_lst_t, p_srt_l, p_all_f, p_any_f, p_sum_l, metK, mutK, sameK, isinP, isOf, tyName, fput, putFP, keyOf, keyOf1, kindOf, part, isP, strsOf, intsOf, blsOf, b2n, Option.map_some, Option.bind_some, Option.map_none, Option.bind_none, truthy, reduceIte, if_true, if_false, isCont, Nat.reduceAdd, Nat.reduceSub, Nat.reduceLT, Nat.reduceMul, Nat.reducePow, Int.reduceLE, Int.reduceLT, Int.reduceToNat, Int.reduceAdd, Int.reduceSub, Int.reduceMul, Int.reduceNeg, Int.reducePow, Nat.zero_add, Nat.zero_lt_succ, and_self, and_true, true_and, decide_true, decide_false, Bool.false_and, Bool.and_false, Bool.true_and, Bool.and_true, Bool.not_true, Bool.not_false, Bool.or_false, Bool.or_true, Bool.false_or, Bool.true_or, eq_self, Bool.false_eq_true, String.reduceBEq, String.reduceEq, beq_self_eq_true, List.all_cons, List.all_nil, List.any_cons, List.any_nil, itemsOf, cmulB, cpowB]
  rfl
theorem is_marked_ok (st : List Nat) (n : Nat) (mu : List PV) (hl : st.length ≤ SL) : evF x_is_marked [.str st, .int n] mu = some (.ok (.bl (st.length == n && st.all markB), false), mu) := by
  rw [x_is_marked, ev_fn (by rfl)]
  simp (decide := true) (dsimp := false) only [cmp_ei, cmp_ni, cmp_es, cmp_ns, cmp_lt, cmp_le, cmp_gt, cmp_ge, cmp_is, cmp_isn, cmp_in, cmp_nin, ↓evR_comp, ↓evR_dcomp, ↓evR_tand, ↓evR_tor, ↓evR_and, ↓evR_or, ↓evR_ite, ↓evR_cmp2, ↓evS_ifs, iteB_t, iteB_f, iteK_t, iteK_f, iB_and, iB_and2, iB_or, iB_or2, iB_int, iB_str, iB_same, str1_eq, natc_eq, blsOf_f, strsOf_f, intsOf_f, blsOf_map, strsOf_map, intsOf_map, rangeP_n, ov_t, ov_f, wipeE, ix_tup0, ix_tup1, ix_tup2, ix_tup3, ix_lst0, ix_lst1, ix_lst2, ix_lst3, in01, List.all_map, List.any_map, ↓evS_for, ↓evS_whl, turnS_b, turnD_b, evF, fixN, evSs, evS, evR, evA, evL, evI, plc, tst, fz, ↓bd_k, ↓op1_k, bdk_rt, bdk_some, bdk_exc, fin_exc, ↓evS_try, tryS_rt, tryS_exc, evH, evX, excIs, exLt, wipeX, List.zip_nil_left, List.reverse_nil, List.reverse_cons, List.zip_cons_cons, op1k_some, setB, Sg.look, Sg.lookL, drf, Sg.put, entry, fin_ret, fin_nx, bindT, bindTs, callR, List.map_cons, List.map_nil, List.length_cons, List.length_nil, List.length_map, List.replicate_succ, List.replicate_zero, List.getElem?_cons_zero, List.getElem?_cons_succ, List.cons_append, List.nil_append, List.set_cons_zero, List.set_cons_succ, binP, binI, set_lst, p_len_l, p_len_t, p_len_k, p_len_s, p_int_i, p_int_b, p_tup_l, p_tup_t, p_lst_l, p_lst_t, p_srt_l, p_all_f, p_any_f, p_sum_l, metK, mutK, sameK, isinP, isOf, tyName, fput, putFP, keyOf, keyOf1, kindOf, part, isP, strsOf, intsOf, blsOf, b2n, Option.map_some, Option.bind_some, Option.map_none, Option.bind_none, truthy, reduceIte, if_true, if_false, isCont, Nat.reduceAdd, Nat.reduceSub, Nat.reduceLT, Nat.reduceMul, Nat.reducePow, Int.reduceLE, Int.reduceLT, Int.reduceToNat, Int.reduceAdd, Int.reduceSub, Int.reduceMul, Int.reduceNeg, Int.reducePow, Nat.zero_add, Nat.zero_lt_succ, and_self, and_true, true_and, decide_true, decide_false, Bool.false_and, Bool.and_false, Bool.true_and, Bool.and_true, Bool.not_true, Bool.not_false, Bool.or_false, Bool.or_true, Bool.false_or, Bool.true_or, eq_self, Bool.false_eq_true, String.reduceBEq, String.reduceEq, beq_self_eq_true, List.all_cons, List.all_nil, List.any_cons, List.any_nil, itemsOf, cmulB, cpowB, hl]
  rw [cm_map (out := ?o55) (env' := ?e55) ?h55 rfl (by first | assumption | (simp only [List.length_map, List.length_range, List.length_zip, List.length_zipIdx, List.length_cons, List.length_nil, List.length_reverse]; first | assumption | omega | (simp only [SL]; omega) | (simp only [SL] at *; omega)))]
  case h55 =>
    intro x hx
    constructor
    · rw [x_is_marked_e0]; simp (decide := true) (dsimp := false) only [cmp_ei, cmp_ni, cmp_es, cmp_ns, cmp_lt, cmp_le, cmp_gt, cmp_ge, cmp_is, cmp_isn, cmp_in, cmp_nin, ↓evR_comp, ↓evR_dcomp, ↓evR_tand, ↓evR_tor, ↓evR_and, ↓evR_or, ↓evR_ite, ↓evR_cmp2, ↓evS_ifs, iteB_t, iteB_f, iteK_t, iteK_f, iB_and, iB_and2, iB_or, iB_or2, iB_int, iB_str, iB_same, str1_eq, natc_eq, blsOf_f, strsOf_f, intsOf_f, blsOf_map, strsOf_map, intsOf_map, rangeP_n, ov_t, ov_f, wipeE, ix_tup0, ix_tup1, ix_tup2, ix_tup3, ix_lst0, ix_lst1, ix_lst2, ix_lst3, in01, List.all_map, List.any_map, ↓evS_for, ↓evS_whl, turnS_b, turnD_b, evF, fixN, evSs, evS, evR, evA, evL, evI, plc, tst, fz, ↓bd_k, ↓op1_k, bdk_rt, bdk_some, bdk_exc, fin_exc, ↓evS_try, tryS_rt, tryS_exc, evH, evX, excIs, exLt, wipeX, List.zip_nil_left, List.reverse_nil, List.reverse_cons, List.zip_cons_cons, op1k_some, setB, Sg.look, Sg.lookL, drf, Sg.put, entry, fin_ret, fin_nx, bindT, bindTs, callR, List.map_cons, List.map_nil, List.length_cons, List.length_nil, List.length_map, List.replicate_succ, List.replicate_zero, List.getElem?_cons_zero, List.getElem?_cons_succ, List.cons_append, List.nil_append, List.set_cons_zero, List.set_cons_succ, binP, binI, set_lst, p_len_l, p_len_t, p_len_k, p_len_s, p_int_i, p_int_b, p_tup_l, p_tup_t, p_lst_l, p_lst_t, p_srt_l, p_all_f, p_any_f, p_sum_l, metK, mutK, sameK, isinP, isOf, tyName, fput, putFP, keyOf, keyOf1, kindOf, part, isP, strsOf, intsOf, blsOf, b2n, Option.map_some, Option.bind_some, Option.map_none, Option.bind_none, truthy, reduceIte, if_true, if_false, isCont, Nat.reduceAdd, Nat.reduceSub, Nat.reduceLT, Nat.reduceMul, Nat.reducePow, Int.reduceLE, Int.reduceLT, Int.reduceToNat, Int.reduceAdd, Int.reduceSub, Int.reduceMul, Int.reduceNeg, Int.reducePow, Nat.zero_add, Nat.zero_lt_succ, and_self, and_true, true_and, decide_true, decide_false, Bool.false_and, Bool.and_false, Bool.true_and, Bool.and_true, Bool.not_true, Bool.not_false, Bool.or_false, Bool.or_true, Bool.false_or, Bool.true_or, eq_self, Bool.false_eq_true, String.reduceBEq, String.reduceEq, beq_self_eq_true, List.all_cons, List.all_nil, List.any_cons, List.any_nil, itemsOf, cmulB, cpowB]; try rfl
    · rfl
  simp (decide := true) (dsimp := false) only [cmp_ei, cmp_ni, cmp_es, cmp_ns, cmp_lt, cmp_le, cmp_gt, cmp_ge, cmp_is, cmp_isn, cmp_in, cmp_nin, ↓evR_comp, ↓evR_dcomp, ↓evR_tand, ↓evR_tor, ↓evR_and, ↓evR_or, ↓evR_ite, ↓evR_cmp2, ↓evS_ifs, iteB_t, iteB_f, iteK_t, iteK_f, iB_and, iB_and2, iB_or, iB_or2, iB_int, iB_str, iB_same, str1_eq, natc_eq, blsOf_f, strsOf_f, intsOf_f, blsOf_map, strsOf_map, intsOf_map, rangeP_n, ov_t, ov_f, wipeE, ix_tup0, ix_tup1, ix_tup2, ix_tup3, ix_lst0, ix_lst1, ix_lst2, ix_lst3, in01, List.all_map, List.any_map, ↓evS_for, ↓evS_whl, turnS_b, turnD_b, evF, fixN, evSs, evS, evR, evA, evL, evI, plc, tst, fz, ↓bd_k, ↓op1_k, bdk_rt, bdk_some, bdk_exc, fin_exc, ↓evS_try, tryS_rt, tryS_exc, evH, evX, excIs, exLt, wipeX, List.zip_nil_left, List.reverse_nil, List.reverse_cons, List.zip_cons_cons, op1k_some, setB, Sg.look, Sg.lookL, drf, Sg.put, entry, fin_ret, fin_nx, bindT, bindTs, callR, List.map_cons, List.map_nil, List.length_cons, List.length_nil, List.length_map, List.replicate_succ, List.replicate_zero, List.getElem?_cons_zero, List.getElem?_cons_succ, List.cons_append, List.nil_append, List.set_cons_zero, List.set_cons_succ, binP, binI, set_lst, p_len_l, p_len_t, p_len_k, p_len_s, p_int_i, p_int_b, p_tup_l, p_tup_t, p_lst_l, p_lst_t, p_srt_l, p_all_f, p_any_f, p_sum_l, metK, mutK, sameK, isinP, isOf, tyName, fput, putFP, keyOf, keyOf1, kindOf, part, isP, strsOf, intsOf, blsOf, b2n, Option.map_some, Option.bind_some, Option.map_none, Option.bind_none, truthy, reduceIte, if_true, if_false, isCont, Nat.reduceAdd, Nat.reduceSub, Nat.reduceLT, Nat.reduceMul, Nat.reducePow, Int.reduceLE, Int.reduceLT, Int.reduceToNat, Int.reduceAdd, Int.reduceSub, Int.reduceMul, Int.reduceNeg, Int.reducePow, Nat.zero_add, Nat.zero_lt_succ, and_self, and_true, true_and, decide_true, decide_false, Bool.false_and, Bool.and_false, Bool.true_and, Bool.and_true, Bool.not_true, Bool.not_false, Bool.or_false, Bool.or_true, Bool.false_or, Bool.true_or, eq_self, Bool.false_eq_true, String.reduceBEq, String.reduceEq, beq_self_eq_true, List.all_cons, List.all_nil, List.any_cons, List.any_nil, itemsOf, cmulB, cpowB]
  rfl
/-- a standing of the rows -/
def isSt (p : Nat) (rs : List (List Nat)) (st : List Nat) : Bool := (st.length == p && st.all markB) && rs.any fun r => fitsB r st
theorem is_standing_ok {p k : Nat} {rs : List (List Nat)} {kn : PV} {mu : List PV} (L : LC p rs kn mu k) (st : List Nat) (hl : st.length ≤ SL) : evF x_is_standing [.ref k, .str st] mu = some (.ok (.bl (isSt p rs st), false), mu) := by
  rw [x_is_standing, ev_fn (by rfl)]
  simp (decide := true) (dsimp := false) only [cmp_ei, cmp_ni, cmp_es, cmp_ns, cmp_lt, cmp_le, cmp_gt, cmp_ge, cmp_is, cmp_isn, cmp_in, cmp_nin, ↓evR_comp, ↓evR_dcomp, ↓evR_tand, ↓evR_tor, ↓evR_and, ↓evR_or, ↓evR_ite, ↓evR_cmp2, ↓evS_ifs, iteB_t, iteB_f, iteK_t, iteK_f, iB_and, iB_and2, iB_or, iB_or2, iB_int, iB_str, iB_same, str1_eq, natc_eq, blsOf_f, strsOf_f, intsOf_f, blsOf_map, strsOf_map, intsOf_map, rangeP_n, ov_t, ov_f, wipeE, ix_tup0, ix_tup1, ix_tup2, ix_tup3, ix_lst0, ix_lst1, ix_lst2, ix_lst3, in01, List.all_map, List.any_map, ↓evS_for, ↓evS_whl, turnS_b, turnD_b, evF, fixN, evSs, evS, evR, evA, evL, evI, plc, tst, fz, ↓bd_k, ↓op1_k, bdk_rt, bdk_some, bdk_exc, fin_exc, ↓evS_try, tryS_rt, tryS_exc, evH, evX, excIs, exLt, wipeX, List.zip_nil_left, List.reverse_nil, List.reverse_cons, List.zip_cons_cons, op1k_some, setB, Sg.look, Sg.lookL, drf, Sg.put, entry, fin_ret, fin_nx, bindT, bindTs, callR, List.map_cons, List.map_nil, List.length_cons, List.length_nil, List.length_map, List.replicate_succ, List.replicate_zero, List.getElem?_cons_zero, List.getElem?_cons_succ, List.cons_append, List.nil_append, List.set_cons_zero, List.set_cons_succ, binP, binI, set_lst, p_len_l, p_len_t, p_len_k, p_len_s, p_int_i, p_int_b, p_tup_l, p_tup_t, p_lst_l, p_lst_t, p_srt_l, p_all_f, p_any_f, p_sum_l, metK, mutK, sameK, isinP, isOf, tyName, fput, putFP, keyOf, keyOf1, kindOf, part, isP, strsOf, intsOf, blsOf, b2n, Option.map_some, Option.bind_some, Option.map_none, Option.bind_none, truthy, reduceIte, if_true, if_false, isCont, Nat.reduceAdd, Nat.reduceSub, Nat.reduceLT, Nat.reduceMul, Nat.reducePow, Int.reduceLE, Int.reduceLT, Int.reduceToNat, Int.reduceAdd, Int.reduceSub, Int.reduceMul, Int.reduceNeg, Int.reducePow, Nat.zero_add, Nat.zero_lt_succ, and_self, and_true, true_and, decide_true, decide_false, Bool.false_and, Bool.and_false, Bool.true_and, Bool.and_true, Bool.not_true, Bool.not_false, Bool.or_false, Bool.or_true, Bool.false_or, Bool.true_or, eq_self, Bool.false_eq_true, String.reduceBEq, String.reduceEq, beq_self_eq_true, List.all_cons, List.all_nil, List.any_cons, List.any_nil, itemsOf, cmulB, cpowB, L.at_, lotK_places, lotK_rows, is_marked_ok st p mu hl]
  have hm := L.ro.mS
  rw [cm_map (out := ?o69) (env' := ?e69) ?h69 rfl (by first | assumption | (simp only [List.length_map, List.length_range, List.length_zip, List.length_zipIdx, List.length_cons, List.length_nil, List.length_reverse]; first | assumption | omega | (simp only [SL]; omega) | (simp only [SL] at *; omega)))]
  case h69 =>
    intro x hx
    constructor
    · rw [x_is_standing_e0]; simp (decide := true) (dsimp := false) only [cmp_ei, cmp_ni, cmp_es, cmp_ns, cmp_lt, cmp_le, cmp_gt, cmp_ge, cmp_is, cmp_isn, cmp_in, cmp_nin, ↓evR_comp, ↓evR_dcomp, ↓evR_tand, ↓evR_tor, ↓evR_and, ↓evR_or, ↓evR_ite, ↓evR_cmp2, ↓evS_ifs, iteB_t, iteB_f, iteK_t, iteK_f, iB_and, iB_and2, iB_or, iB_or2, iB_int, iB_str, iB_same, str1_eq, natc_eq, blsOf_f, strsOf_f, intsOf_f, blsOf_map, strsOf_map, intsOf_map, rangeP_n, ov_t, ov_f, wipeE, ix_tup0, ix_tup1, ix_tup2, ix_tup3, ix_lst0, ix_lst1, ix_lst2, ix_lst3, in01, List.all_map, List.any_map, ↓evS_for, ↓evS_whl, turnS_b, turnD_b, evF, fixN, evSs, evS, evR, evA, evL, evI, plc, tst, fz, ↓bd_k, ↓op1_k, bdk_rt, bdk_some, bdk_exc, fin_exc, ↓evS_try, tryS_rt, tryS_exc, evH, evX, excIs, exLt, wipeX, List.zip_nil_left, List.reverse_nil, List.reverse_cons, List.zip_cons_cons, op1k_some, setB, Sg.look, Sg.lookL, drf, Sg.put, entry, fin_ret, fin_nx, bindT, bindTs, callR, List.map_cons, List.map_nil, List.length_cons, List.length_nil, List.length_map, List.replicate_succ, List.replicate_zero, List.getElem?_cons_zero, List.getElem?_cons_succ, List.cons_append, List.nil_append, List.set_cons_zero, List.set_cons_succ, binP, binI, set_lst, p_len_l, p_len_t, p_len_k, p_len_s, p_int_i, p_int_b, p_tup_l, p_tup_t, p_lst_l, p_lst_t, p_srt_l, p_all_f, p_any_f, p_sum_l, metK, mutK, sameK, isinP, isOf, tyName, fput, putFP, keyOf, keyOf1, kindOf, part, isP, strsOf, intsOf, blsOf, b2n, Option.map_some, Option.bind_some, Option.map_none, Option.bind_none, truthy, reduceIte, if_true, if_false, isCont, Nat.reduceAdd, Nat.reduceSub, Nat.reduceLT, Nat.reduceMul, Nat.reducePow, Int.reduceLE, Int.reduceLT, Int.reduceToNat, Int.reduceAdd, Int.reduceSub, Int.reduceMul, Int.reduceNeg, Int.reducePow, Nat.zero_add, Nat.zero_lt_succ, and_self, and_true, true_and, decide_true, decide_false, Bool.false_and, Bool.and_false, Bool.true_and, Bool.and_true, Bool.not_true, Bool.not_false, Bool.or_false, Bool.or_true, Bool.false_or, Bool.true_or, eq_self, Bool.false_eq_true, String.reduceBEq, String.reduceEq, beq_self_eq_true, List.all_cons, List.all_nil, List.any_cons, List.any_nil, itemsOf, cmulB, cpowB, fits_ok x st mu (L.ro.lS x hx)]; try rfl
    · rfl
  simp (decide := true) (dsimp := false) only [cmp_ei, cmp_ni, cmp_es, cmp_ns, cmp_lt, cmp_le, cmp_gt, cmp_ge, cmp_is, cmp_isn, cmp_in, cmp_nin, ↓evR_comp, ↓evR_dcomp, ↓evR_tand, ↓evR_tor, ↓evR_and, ↓evR_or, ↓evR_ite, ↓evR_cmp2, ↓evS_ifs, iteB_t, iteB_f, iteK_t, iteK_f, iB_and, iB_and2, iB_or, iB_or2, iB_int, iB_str, iB_same, str1_eq, natc_eq, blsOf_f, strsOf_f, intsOf_f, blsOf_map, strsOf_map, intsOf_map, rangeP_n, ov_t, ov_f, wipeE, ix_tup0, ix_tup1, ix_tup2, ix_tup3, ix_lst0, ix_lst1, ix_lst2, ix_lst3, in01, List.all_map, List.any_map, ↓evS_for, ↓evS_whl, turnS_b, turnD_b, evF, fixN, evSs, evS, evR, evA, evL, evI, plc, tst, fz, ↓bd_k, ↓op1_k, bdk_rt, bdk_some, bdk_exc, fin_exc, ↓evS_try, tryS_rt, tryS_exc, evH, evX, excIs, exLt, wipeX, List.zip_nil_left, List.reverse_nil, List.reverse_cons, List.zip_cons_cons, op1k_some, setB, Sg.look, Sg.lookL, drf, Sg.put, entry, fin_ret, fin_nx, bindT, bindTs, callR, List.map_cons, List.map_nil, List.length_cons, List.length_nil, List.length_map, List.replicate_succ, List.replicate_zero, List.getElem?_cons_zero, List.getElem?_cons_succ, List.cons_append, List.nil_append, List.set_cons_zero, List.set_cons_succ, binP, binI, set_lst, p_len_l, p_len_t, p_len_k, p_len_s, p_int_i, p_int_b, p_tup_l, p_tup_t, p_lst_l, p_lst_t, p_srt_l, p_all_f, p_any_f, p_sum_l, metK, mutK, sameK, isinP, isOf, tyName, fput, putFP, keyOf, keyOf1, kindOf, part, isP, strsOf, intsOf, blsOf, b2n, Option.map_some, Option.bind_some, Option.map_none, Option.bind_none, truthy, reduceIte, if_true, if_false, isCont, Nat.reduceAdd, Nat.reduceSub, Nat.reduceLT, Nat.reduceMul, Nat.reducePow, Int.reduceLE, Int.reduceLT, Int.reduceToNat, Int.reduceAdd, Int.reduceSub, Int.reduceMul, Int.reduceNeg, Int.reducePow, Nat.zero_add, Nat.zero_lt_succ, and_self, and_true, true_and, decide_true, decide_false, Bool.false_and, Bool.and_false, Bool.true_and, Bool.and_true, Bool.not_true, Bool.not_false, Bool.or_false, Bool.or_true, Bool.false_or, Bool.true_or, eq_self, Bool.false_eq_true, String.reduceBEq, String.reduceEq, beq_self_eq_true, List.all_cons, List.all_nil, List.any_cons, List.any_nil, itemsOf, cmulB, cpowB]
  rfl
theorem check_ok {p k : Nat} {rs : List (List Nat)} {kn : PV} {mu : List PV} (L : LC p rs kn mu k) (st : List Nat) (hl : st.length ≤ SL) (h : isSt p rs st = true) : evF x_check_standing [.ref k, .str st] mu = some (.ok (.str st, false), mu) := by
  rw [x_check_standing, ev_fn (by rfl)]
  simp (decide := true) (dsimp := false) only [cmp_ei, cmp_ni, cmp_es, cmp_ns, cmp_lt, cmp_le, cmp_gt, cmp_ge, cmp_is, cmp_isn, cmp_in, cmp_nin, ↓evR_comp, ↓evR_dcomp, ↓evR_tand, ↓evR_tor, ↓evR_and, ↓evR_or, ↓evR_ite, ↓evR_cmp2, ↓evS_ifs, iteB_t, iteB_f, iteK_t, iteK_f, iB_and, iB_and2, iB_or, iB_or2, iB_int, iB_str, iB_same, str1_eq, natc_eq, blsOf_f, strsOf_f, intsOf_f, blsOf_map, strsOf_map, intsOf_map, rangeP_n, ov_t, ov_f, wipeE, ix_tup0, ix_tup1, ix_tup2, ix_tup3, ix_lst0, ix_lst1, ix_lst2, ix_lst3, in01, List.all_map, List.any_map, ↓evS_for, ↓evS_whl, turnS_b, turnD_b, evF, fixN, evSs, evS, evR, evA, evL, evI, plc, tst, fz, ↓bd_k, ↓op1_k, bdk_rt, bdk_some, bdk_exc, fin_exc, ↓evS_try, tryS_rt, tryS_exc, evH, evX, excIs, exLt, wipeX, List.zip_nil_left, List.reverse_nil, List.reverse_cons, List.zip_cons_cons, op1k_some, setB, Sg.look, Sg.lookL, drf, Sg.put, entry, fin_ret, fin_nx, bindT, bindTs, callR, List.map_cons, List.map_nil, List.length_cons, List.length_nil, List.length_map, List.replicate_succ, List.replicate_zero, List.getElem?_cons_zero, List.getElem?_cons_succ, List.cons_append, List.nil_append, List.set_cons_zero, List.set_cons_succ, binP, binI, set_lst, p_len_l, p_len_t, p_len_k, p_len_s, p_int_i, p_int_b, p_tup_l, p_tup_t, p_lst_l, p_lst_t, p_srt_l, p_all_f, p_any_f, p_sum_l, metK, mutK, sameK, isinP, isOf, tyName, fput, putFP, keyOf, keyOf1, kindOf, part, isP, strsOf, intsOf, blsOf, b2n, Option.map_some, Option.bind_some, Option.map_none, Option.bind_none, truthy, reduceIte, if_true, if_false, isCont, Nat.reduceAdd, Nat.reduceSub, Nat.reduceLT, Nat.reduceMul, Nat.reducePow, Int.reduceLE, Int.reduceLT, Int.reduceToNat, Int.reduceAdd, Int.reduceSub, Int.reduceMul, Int.reduceNeg, Int.reducePow, Nat.zero_add, Nat.zero_lt_succ, and_self, and_true, true_and, decide_true, decide_false, Bool.false_and, Bool.and_false, Bool.true_and, Bool.and_true, Bool.not_true, Bool.not_false, Bool.or_false, Bool.or_true, Bool.false_or, Bool.true_or, eq_self, Bool.false_eq_true, String.reduceBEq, String.reduceEq, beq_self_eq_true, List.all_cons, List.all_nil, List.any_cons, List.any_nil, itemsOf, cmulB, cpowB, is_standing_ok L st hl, h]
theorem check_no {p k : Nat} {rs : List (List Nat)} {kn : PV} {mu : List PV} (L : LC p rs kn mu k) (st : List Nat) (hl : st.length ≤ SL) (h : isSt p rs st = false) : evF x_check_standing [.ref k, .str st] mu = some (.exc "BadStanding" [], mu) := by
  rw [x_check_standing, ev_fn (by rfl)]
  simp (decide := true) (dsimp := false) only [cmp_ei, cmp_ni, cmp_es, cmp_ns, cmp_lt, cmp_le, cmp_gt, cmp_ge, cmp_is, cmp_isn, cmp_in, cmp_nin, ↓evR_comp, ↓evR_dcomp, ↓evR_tand, ↓evR_tor, ↓evR_and, ↓evR_or, ↓evR_ite, ↓evR_cmp2, ↓evS_ifs, iteB_t, iteB_f, iteK_t, iteK_f, iB_and, iB_and2, iB_or, iB_or2, iB_int, iB_str, iB_same, str1_eq, natc_eq, blsOf_f, strsOf_f, intsOf_f, blsOf_map, strsOf_map, intsOf_map, rangeP_n, ov_t, ov_f, wipeE, ix_tup0, ix_tup1, ix_tup2, ix_tup3, ix_lst0, ix_lst1, ix_lst2, ix_lst3, in01, List.all_map, List.any_map, ↓evS_for, ↓evS_whl, turnS_b, turnD_b, evF, fixN, evSs, evS, evR, evA, evL, evI, plc, tst, fz, ↓bd_k, ↓op1_k, bdk_rt, bdk_some, bdk_exc, fin_exc, ↓evS_try, tryS_rt, tryS_exc, evH, evX, excIs, exLt, wipeX, List.zip_nil_left, List.reverse_nil, List.reverse_cons, List.zip_cons_cons, op1k_some, setB, Sg.look, Sg.lookL, drf, Sg.put, entry, fin_ret, fin_nx, bindT, bindTs, callR, List.map_cons, List.map_nil, List.length_cons, List.length_nil, List.length_map, List.replicate_succ, List.replicate_zero, List.getElem?_cons_zero, List.getElem?_cons_succ, List.cons_append, List.nil_append, List.set_cons_zero, List.set_cons_succ, binP, binI, set_lst, p_len_l, p_len_t, p_len_k, p_len_s, p_int_i, p_int_b, p_tup_l, p_tup_t, p_lst_l, p_lst_t, p_srt_l, p_all_f, p_any_f, p_sum_l, metK, mutK, sameK, isinP, isOf, tyName, fput, putFP, keyOf, keyOf1, kindOf, part, isP, strsOf, intsOf, blsOf, b2n, Option.map_some, Option.bind_some, Option.map_none, Option.bind_none, truthy, reduceIte, if_true, if_false, isCont, Nat.reduceAdd, Nat.reduceSub, Nat.reduceLT, Nat.reduceMul, Nat.reducePow, Int.reduceLE, Int.reduceLT, Int.reduceToNat, Int.reduceAdd, Int.reduceSub, Int.reduceMul, Int.reduceNeg, Int.reducePow, Nat.zero_add, Nat.zero_lt_succ, and_self, and_true, true_and, decide_true, decide_false, Bool.false_and, Bool.and_false, Bool.true_and, Bool.and_true, Bool.not_true, Bool.not_false, Bool.or_false, Bool.or_true, Bool.false_or, Bool.true_or, eq_self, Bool.false_eq_true, String.reduceBEq, String.reduceEq, beq_self_eq_true, List.all_cons, List.all_nil, List.any_cons, List.any_nil, itemsOf, cmulB, cpowB, is_standing_ok L st hl, h]
theorem isSt_len {p : Nat} {rs : List (List Nat)} {st : List Nat} (h : isSt p rs st = true) : st.length = p := by
  unfold isSt at h
  simp only [Bool.and_eq_true, beq_iff_eq] at h
  exact h.1.1
theorem isSt_mark {p : Nat} {rs : List (List Nat)} {st : List Nat} (h : isSt p rs st = true) : st.all markB = true := by
  unfold isSt at h
  simp only [Bool.and_eq_true, beq_iff_eq] at h
  exact h.1.2
theorem rowsAt_ne {p : Nat} {rs : List (List Nat)} {st : List Nat} (h : isSt p rs st = true) : rowsAt rs st ≠ [] := by
  unfold isSt at h
  rw [Bool.and_eq_true] at h
  obtain ⟨r, hr, hf⟩ := List.any_eq_true.mp h.2
  exact List.ne_nil_of_mem (List.mem_filter.mpr ⟨hr, hf⟩)
theorem isSt_iff {p : Nat} {rs : List (List Nat)} {st : List Nat} (hl : st.length = p) (hs : st.all markB = true) : isSt p rs st = decide (0 < (rowsAt rs st).length) := by
  unfold isSt
  rw [hl, hs, beq_self_eq_true, Bool.true_and, Bool.true_and, Bool.eq_iff_iff, decide_eq_true_eq, List.any_eq_true, List.length_pos_iff_exists_mem]
  exact ⟨fun ⟨r, h1, h2⟩ => ⟨r, List.mem_filter.mpr ⟨h1, h2⟩⟩, fun ⟨r, h⟩ => ⟨r, List.mem_filter.mp h⟩⟩
theorem fits_dots {r : List Nat} : fitsB r (List.replicate r.length 46) = true := by
  unfold fitsB
  rw [List.all_eq_true]
  intro x hx
  have := List.of_mem_zip (a := x.1) (b := x.2) hx
  rw [List.eq_of_mem_replicate this.2]; rfl
theorem rowsAt_dots {p : Nat} {rs : List (List Nat)} (hlen : ∀ r ∈ rs, r.length = p) : rowsAt rs (List.replicate p 46) = rs := by
  unfold rowsAt
  rw [List.filter_eq_self]
  intro r hr
  have := fits_dots (r := r)
  rwa [hlen r hr] at this
theorem isSt_dots {p : Nat} {rs : List (List Nat)} (h : RowsOk p rs) : isSt p rs (List.replicate p 46) = true := by
  rw [isSt_iff (List.length_replicate ..) ?_, decide_eq_true_eq, rowsAt_dots h.len]
  · exact List.length_pos_iff.mpr h.ne
  · rw [List.all_eq_true]
    intro c hc
    rw [List.eq_of_mem_replicate hc]; rfl
theorem fits_at {r st : List Nat} (hf : fitsB r st = true) {a : Nat} (h1 : a < r.length) (h2 : a < st.length) (hd : st.getD a 0 ≠ 46) : st.getD a 0 = r.getD a 0 := by
  unfold fitsB at hf
  rw [List.all_eq_true] at hf
  have := hf (r[a], st[a]) (List.mem_iff_getElem?.mpr ⟨a, by rw [List.getElem?_zip_eq_some]; exact ⟨List.getElem?_eq_getElem h1, List.getElem?_eq_getElem h2⟩⟩)
  rw [List.getD_eq_getElem?_getD, List.getElem?_eq_getElem h2] at hd ⊢
  rw [List.getD_eq_getElem?_getD, List.getElem?_eq_getElem h1]
  simp only [Bool.or_eq_true, beq_iff_eq] at this
  exact this.resolve_left hd
theorem fits_iff {r st : List Nat} (h : st.length = r.length) : fitsB r st = true ↔ ∀ a, a < st.length → st.getD a 0 = 46 ∨ st.getD a 0 = r.getD a 0 := by
  constructor
  · intro hf a ha
    by_cases hd : st.getD a 0 = 46
    · exact .inl hd
    · exact .inr (fits_at hf (by omega) ha hd)
  · intro q
    unfold fitsB
    rw [List.all_eq_true]
    intro x hx
    obtain ⟨i, hi⟩ := List.mem_iff_getElem?.mp hx
    rw [List.getElem?_zip_eq_some] at hi
    have hl := (List.getElem?_eq_some_iff.mp hi.1).1
    have := q i (by omega)
    rw [List.getD_eq_getElem?_getD, List.getD_eq_getElem?_getD, hi.1, hi.2] at this
    simpa using this
theorem fitting_ok {p k : Nat} {rs : List (List Nat)} {kn : PV} {mu : List PV} (L : LC p rs kn mu k) (st : List Nat) (h : isSt p rs st = true) : evF x_fitting [.ref k, .str st] mu = some (.ok (.lst ((rowsAt rs st).map .str), true), mu) := by
  rw [x_fitting, ev_fn (by rfl)]
  simp (decide := true) (dsimp := false) only [cmp_ei, cmp_ni, cmp_es, cmp_ns, cmp_lt, cmp_le, cmp_gt, cmp_ge, cmp_is, cmp_isn, cmp_in, cmp_nin, ↓evR_comp, ↓evR_dcomp, ↓evR_tand, ↓evR_tor, ↓evR_and, ↓evR_or, ↓evR_ite, ↓evR_cmp2, ↓evS_ifs, iteB_t, iteB_f, iteK_t, iteK_f, iB_and, iB_and2, iB_or, iB_or2, iB_int, iB_str, iB_same, str1_eq, natc_eq, blsOf_f, strsOf_f, intsOf_f, blsOf_map, strsOf_map, intsOf_map, rangeP_n, ov_t, ov_f, wipeE, ix_tup0, ix_tup1, ix_tup2, ix_tup3, ix_lst0, ix_lst1, ix_lst2, ix_lst3, in01, List.all_map, List.any_map, ↓evS_for, ↓evS_whl, turnS_b, turnD_b, evF, fixN, evSs, evS, evR, evA, evL, evI, plc, tst, fz, ↓bd_k, ↓op1_k, bdk_rt, bdk_some, bdk_exc, fin_exc, ↓evS_try, tryS_rt, tryS_exc, evH, evX, excIs, exLt, wipeX, List.zip_nil_left, List.reverse_nil, List.reverse_cons, List.zip_cons_cons, op1k_some, setB, Sg.look, Sg.lookL, drf, Sg.put, entry, fin_ret, fin_nx, bindT, bindTs, callR, List.map_cons, List.map_nil, List.length_cons, List.length_nil, List.length_map, List.replicate_succ, List.replicate_zero, List.getElem?_cons_zero, List.getElem?_cons_succ, List.cons_append, List.nil_append, List.set_cons_zero, List.set_cons_succ, binP, binI, set_lst, p_len_l, p_len_t, p_len_k, p_len_s, p_int_i, p_int_b, p_tup_l, p_tup_t, p_lst_l, p_lst_t, p_srt_l, p_all_f, p_any_f, p_sum_l, metK, mutK, sameK, isinP, isOf, tyName, fput, putFP, keyOf, keyOf1, kindOf, part, isP, strsOf, intsOf, blsOf, b2n, Option.map_some, Option.bind_some, Option.map_none, Option.bind_none, truthy, reduceIte, if_true, if_false, isCont, Nat.reduceAdd, Nat.reduceSub, Nat.reduceLT, Nat.reduceMul, Nat.reducePow, Int.reduceLE, Int.reduceLT, Int.reduceToNat, Int.reduceAdd, Int.reduceSub, Int.reduceMul, Int.reduceNeg, Int.reducePow, Nat.zero_add, Nat.zero_lt_succ, and_self, and_true, true_and, decide_true, decide_false, Bool.false_and, Bool.and_false, Bool.true_and, Bool.and_true, Bool.not_true, Bool.not_false, Bool.or_false, Bool.or_true, Bool.false_or, Bool.true_or, eq_self, Bool.false_eq_true, String.reduceBEq, String.reduceEq, beq_self_eq_true, List.all_cons, List.all_nil, List.any_cons, List.any_nil, itemsOf, cmulB, cpowB, check_ok L st (by rw [isSt_len h]; exact L.ro.pS) h, rows_at_ok L st]
theorem fitting_no {p k : Nat} {rs : List (List Nat)} {kn : PV} {mu : List PV} (L : LC p rs kn mu k) (st : List Nat) (hl : st.length ≤ SL) (h : isSt p rs st = false) : evF x_fitting [.ref k, .str st] mu = some (.exc "BadStanding" [], mu) := by
  rw [x_fitting, ev_fn (by rfl)]
  simp (decide := true) (dsimp := false) only [cmp_ei, cmp_ni, cmp_es, cmp_ns, cmp_lt, cmp_le, cmp_gt, cmp_ge, cmp_is, cmp_isn, cmp_in, cmp_nin, ↓evR_comp, ↓evR_dcomp, ↓evR_tand, ↓evR_tor, ↓evR_and, ↓evR_or, ↓evR_ite, ↓evR_cmp2, ↓evS_ifs, iteB_t, iteB_f, iteK_t, iteK_f, iB_and, iB_and2, iB_or, iB_or2, iB_int, iB_str, iB_same, str1_eq, natc_eq, blsOf_f, strsOf_f, intsOf_f, blsOf_map, strsOf_map, intsOf_map, rangeP_n, ov_t, ov_f, wipeE, ix_tup0, ix_tup1, ix_tup2, ix_tup3, ix_lst0, ix_lst1, ix_lst2, ix_lst3, in01, List.all_map, List.any_map, ↓evS_for, ↓evS_whl, turnS_b, turnD_b, evF, fixN, evSs, evS, evR, evA, evL, evI, plc, tst, fz, ↓bd_k, ↓op1_k, bdk_rt, bdk_some, bdk_exc, fin_exc, ↓evS_try, tryS_rt, tryS_exc, evH, evX, excIs, exLt, wipeX, List.zip_nil_left, List.reverse_nil, List.reverse_cons, List.zip_cons_cons, op1k_some, setB, Sg.look, Sg.lookL, drf, Sg.put, entry, fin_ret, fin_nx, bindT, bindTs, callR, List.map_cons, List.map_nil, List.length_cons, List.length_nil, List.length_map, List.replicate_succ, List.replicate_zero, List.getElem?_cons_zero, List.getElem?_cons_succ, List.cons_append, List.nil_append, List.set_cons_zero, List.set_cons_succ, binP, binI, set_lst, p_len_l, p_len_t, p_len_k, p_len_s, p_int_i, p_int_b, p_tup_l, p_tup_t, p_lst_l, p_lst_t, p_srt_l, p_all_f, p_any_f, p_sum_l, metK, mutK, sameK, isinP, isOf, tyName, fput, putFP, keyOf, keyOf1, kindOf, part, isP, strsOf, intsOf, blsOf, b2n, Option.map_some, Option.bind_some, Option.map_none, Option.bind_none, truthy, reduceIte, if_true, if_false, isCont, Nat.reduceAdd, Nat.reduceSub, Nat.reduceLT, Nat.reduceMul, Nat.reducePow, Int.reduceLE, Int.reduceLT, Int.reduceToNat, Int.reduceAdd, Int.reduceSub, Int.reduceMul, Int.reduceNeg, Int.reducePow, Nat.zero_add, Nat.zero_lt_succ, and_self, and_true, true_and, decide_true, decide_false, Bool.false_and, Bool.and_false, Bool.true_and, Bool.and_true, Bool.not_true, Bool.not_false, Bool.or_false, Bool.or_true, Bool.false_or, Bool.true_or, eq_self, Bool.false_eq_true, String.reduceBEq, String.reduceEq, beq_self_eq_true, List.all_cons, List.all_nil, List.any_cons, List.any_nil, itemsOf, cmulB, cpowB, check_no L st hl h]
/-- rows of one length, of a lot or of a part of it -/
structure RW (p : Nat) (R : List (List Nat)) : Prop where
  p10 : p ≤ 10
  len : ∀ r ∈ R, r.length = p
  most : R.length ≤ 64
  ne : R ≠ []
theorem RowsOk.rw {p : Nat} {rs : List (List Nat)} (h : RowsOk p rs) : RW p rs := ⟨h.p10, h.len, h.most, h.ne⟩
theorem RW.fil {p : Nat} {R : List (List Nat)} (h : RW p R) {P : List Nat → Bool} (hne : R.filter P ≠ []) : RW p (R.filter P) :=
  ⟨h.p10, fun r hr => h.len r (List.mem_filter.mp hr).1, Nat.le_trans (List.length_filter_le _ _) h.most, hne⟩
theorem rowsAt_rw {p : Nat} {rs : List (List Nat)} {st : List Nat} (h : RowsOk p rs) (hs : isSt p rs st = true) : RW p (rowsAt rs st) := h.rw.fil (rowsAt_ne hs)
theorem RW.pS {p : Nat} {R : List (List Nat)} (h : RW p R) : p ≤ SL := by have := h.p10; simp [SL]; omega
theorem RW.mS {p : Nat} {R : List (List Nat)} (h : RW p R) : R.length ≤ SL := by have := h.most; simp [SL]; omega
/-- the first row -/
abbrev hd0 (R : List (List Nat)) : List Nat := R.getD 0 []
theorem RW.at_ {p : Nat} {R : List (List Nat)} (h : RW p R) {a : Nat} (ha : a < p) {r : List Nat} (hr : r ∈ R) : idxP (.str r) (.int a) = some (.str [r.getD a 0]) :=
  idx_chr (by rw [h.len r hr]; exact ha) (by rw [h.len r hr]; exact h.pS)
theorem RW.hd {p : Nat} {R : List (List Nat)} (h : RW p R) : hd0 R ∈ R := getD0_mem h.ne
/-- the places at which rows differ -/
def diffs (p : Nat) (R : List (List Nat)) : List Nat := (List.range p).filter fun a => R.any fun r => !(r.getD a 0 == (hd0 R).getD a 0)
theorem diffs_len {p : Nat} {R : List (List Nat)} : (diffs p R).length ≤ p := Nat.le_trans (List.length_filter_le _ _) (by rw [List.length_range]; exact Nat.le_refl _)
theorem mem_diffs {p : Nat} {R : List (List Nat)} {a : Nat} : a ∈ diffs p R ↔ a < p ∧ ∃ r ∈ R, r.getD a 0 ≠ (hd0 R).getD a 0 := by
  unfold diffs
  rw [List.mem_filter, List.mem_range, List.any_eq_true]
  simp
/-- places, as they are told -/
abbrev natT (l : List Nat) : PV := .tup (l.map fun (i : Nat) => .int i)
abbrev natL (l : List Nat) : PV := .lst (l.map fun (i : Nat) => .int i)
abbrev strT (l : List (List Nat)) : PV := .tup (l.map .str)
abbrev strL (l : List (List Nat)) : PV := .lst (l.map .str)
def sgAt (a c : Nat) (R : List (List Nat)) : List (List Nat) := R.filter fun r => r.getD a 0 == c
theorem in_nats {i : Nat} {l : List Nat} : inP (.int i) (natT l) = some (decide (i ∈ l)) := by
  have h1 : (l.map fun (n : Nat) => PV.int n).all flatP = true := by
    rw [List.all_map, List.all_eq_true]; intro x _; rfl
  have h2 : ((l.map fun (n : Nat) => PV.int n).any fun z => eqP z (.int i)) = decide (i ∈ l) := by
    rw [List.any_map, Bool.eq_iff_iff, List.any_eq_true, decide_eq_true_eq]
    constructor
    · rintro ⟨x, hx, e⟩
      have e : ((x : Int) == (i : Int)) = true := e
      have : x = i := by rw [beq_iff_eq] at e; omega
      subst this; exact hx
    · intro h
      exact ⟨i, h, show ((i : Int) == (i : Int)) = true from beq_self_eq_true _⟩
  show (if flatP (.int i) && (l.map fun (n : Nat) => PV.int n).all flatP then some ((l.map fun (n : Nat) => PV.int n).any fun z => eqP z (.int i)) else _) = _
  rw [h1, h2]; rfl
end Lk

namespace Lk
open PySem.Builtin
def unS : PV → List Nat
  | .str s => s
  | _ => []
theorem perm_strs {ys : List PV} {rs : List (List Nat)} (h : ys.Perm (rs.map .str)) : ∃ rs' : List (List Nat), ys = rs'.map .str ∧ rs'.Perm rs := by
  have h1 : ∀ y ∈ ys, y = .str (unS y) := fun y hy => by
    obtain ⟨r, _, rfl⟩ := List.mem_map.mp (h.subset hy)
    rfl
  refine ⟨ys.map unS, ?_, ?_⟩
  · rw [List.map_map]
    exact ((List.map_congr_left fun y hy => (h1 y hy).symm).trans (List.map_id ys)).symm
  · have := h.map unS
    rw [List.map_map] at this
    exact this.trans (by rw [show unS ∘ PV.str = _root_.id from rfl, List.map_id])
theorem RowsOk.perm {p : Nat} {rs rs' : List (List Nat)} (h : RowsOk p rs) (e : rs'.Perm rs) : RowsOk p rs' :=
  ⟨h.p1, h.p10, fun r hr => h.len r (e.subset hr), fun r hr => h.sgn r (e.subset hr), e.nodup_iff.mpr h.nd, fun q => h.ne (by subst q; exact (List.Perm.eq_nil e.symm)), by rw [e.length_eq]; exact h.most⟩
end Lk

namespace Lk
theorem init_ok {p : Nat} {rs rs' : List (List Nat)} (h : RowsOk p rs) (asc : AscS rs) (e : rs'.Perm rs) (mu : List PV) :
    evF x_Lot_init [.ref mu.length, .lst (rs'.map .str)] (mu ++ [.ins "Lot" []]) = some (.ok (.non, false), mu ++ [lotK p rs (.dic false [])]) := by
  have := lot_init_ok (h.perm e) mu
  rw [sortS_of_perm e asc] at this
  exact this
end Lk

namespace Lk
theorem is_integer_i {i : Int} {mu : List PV} : evF x_is_integer [.int i] mu = some (.ok (.bl true, false), mu) := by
  rw [x_is_integer, ev_fn (by rfl)]
  simp (decide := true) (dsimp := false) only [cmp_ei, cmp_ni, cmp_es, cmp_ns, cmp_lt, cmp_le, cmp_gt, cmp_ge, cmp_is, cmp_isn, cmp_in, cmp_nin, ↓evR_comp, ↓evR_dcomp, ↓evR_tand, ↓evR_tor, ↓evR_and, ↓evR_or, ↓evR_ite, ↓evR_cmp2, ↓evS_ifs, iteB_t, iteB_f, iteK_t, iteK_f, iB_and, iB_and2, iB_or, iB_or2, iB_int, iB_str, iB_same, str1_eq, natc_eq, blsOf_f, strsOf_f, intsOf_f, blsOf_map, strsOf_map, intsOf_map, rangeP_n, ov_t, ov_f, wipeE, ix_tup0, ix_tup1, ix_tup2, ix_tup3, ix_lst0, ix_lst1, ix_lst2, ix_lst3, in01, List.all_map, List.any_map, ↓evS_for, ↓evS_whl, turnS_b, turnD_b, evF, fixN, evSs, evS, evR, evA, evL, evI, plc, tst, fz, ↓bd_k, ↓op1_k, bdk_rt, bdk_some, bdk_exc, fin_exc, ↓evS_try, tryS_rt, tryS_exc, evH, evX, excIs, exLt, wipeX, List.zip_nil_left, List.reverse_nil, List.reverse_cons, List.zip_cons_cons, op1k_some, setB, Sg.look, Sg.lookL, drf, Sg.put, entry, fin_ret, fin_nx, bindT, bindTs, callR, List.map_cons, List.map_nil, List.length_cons, List.length_nil, List.length_map, List.replicate_succ, List.replicate_zero, List.getElem?_cons_zero, List.getElem?_cons_succ, List.cons_append, List.nil_append, List.set_cons_zero, List.set_cons_succ, binP, binI, set_lst, p_len_l, p_len_t, p_len_k, p_len_s, p_int_i, p_int_b, p_tup_l, p_tup_t, p_lst_l, p_lst_t, p_srt_l, p_all_f, p_any_f, p_sum_l, metK, mutK, sameK, isinP, isOf, tyName, fput, putFP, keyOf, keyOf1, kindOf, part, isP, strsOf, intsOf, blsOf, b2n, Option.map_some, Option.bind_some, Option.map_none, Option.bind_none, truthy, reduceIte, if_true, if_false, isCont, Nat.reduceAdd, Nat.reduceSub, Nat.reduceLT, Nat.reduceMul, Nat.reducePow, Int.reduceLE, Int.reduceLT, Int.reduceToNat, Int.reduceAdd, Int.reduceSub, Int.reduceMul, Int.reduceNeg, Int.reducePow, Nat.zero_add, Nat.zero_lt_succ, and_self, and_true, true_and, decide_true, decide_false, Bool.false_and, Bool.and_false, Bool.true_and, Bool.and_true, Bool.not_true, Bool.not_false, Bool.or_false, Bool.or_true, Bool.false_or, Bool.true_or, eq_self, Bool.false_eq_true, String.reduceBEq, String.reduceEq, beq_self_eq_true, List.all_cons, List.all_nil, List.any_cons, List.any_nil, itemsOf, cmulB, cpowB]
def isPl (p : Nat) (a : Int) : Bool := decide (0 ≤ a) && decide (a < p)
theorem is_place_ok {p k : Nat} {rs : List (List Nat)} {kn : PV} {mu : List PV} (L : LC p rs kn mu k) (a : Int) : evF x_is_place [.ref k, .int a] mu = some (.ok (.bl (isPl p a), false), mu) := by
  rw [x_is_place, ev_fn (by rfl)]
  simp (decide := true) (dsimp := false) only [cmp_ei, cmp_ni, cmp_es, cmp_ns, cmp_lt, cmp_le, cmp_gt, cmp_ge, cmp_is, cmp_isn, cmp_in, cmp_nin, ↓evR_comp, ↓evR_dcomp, ↓evR_tand, ↓evR_tor, ↓evR_and, ↓evR_or, ↓evR_ite, ↓evR_cmp2, ↓evS_ifs, iteB_t, iteB_f, iteK_t, iteK_f, iB_and, iB_and2, iB_or, iB_or2, iB_int, iB_str, iB_same, str1_eq, natc_eq, blsOf_f, strsOf_f, intsOf_f, blsOf_map, strsOf_map, intsOf_map, rangeP_n, ov_t, ov_f, wipeE, ix_tup0, ix_tup1, ix_tup2, ix_tup3, ix_lst0, ix_lst1, ix_lst2, ix_lst3, in01, List.all_map, List.any_map, ↓evS_for, ↓evS_whl, turnS_b, turnD_b, evF, fixN, evSs, evS, evR, evA, evL, evI, plc, tst, fz, ↓bd_k, ↓op1_k, bdk_rt, bdk_some, bdk_exc, fin_exc, ↓evS_try, tryS_rt, tryS_exc, evH, evX, excIs, exLt, wipeX, List.zip_nil_left, List.reverse_nil, List.reverse_cons, List.zip_cons_cons, op1k_some, setB, Sg.look, Sg.lookL, drf, Sg.put, entry, fin_ret, fin_nx, bindT, bindTs, callR, List.map_cons, List.map_nil, List.length_cons, List.length_nil, List.length_map, List.replicate_succ, List.replicate_zero, List.getElem?_cons_zero, List.getElem?_cons_succ, List.cons_append, List.nil_append, List.set_cons_zero, List.set_cons_succ, binP, binI, set_lst, p_len_l, p_len_t, p_len_k, p_len_s, p_int_i, p_int_b, p_tup_l, p_tup_t, p_lst_l, p_lst_t, p_srt_l, p_all_f, p_any_f, p_sum_l, metK, mutK, sameK, isinP, isOf, tyName, fput, putFP, keyOf, keyOf1, kindOf, part, isP, strsOf, intsOf, blsOf, b2n, Option.map_some, Option.bind_some, Option.map_none, Option.bind_none, truthy, reduceIte, if_true, if_false, isCont, Nat.reduceAdd, Nat.reduceSub, Nat.reduceLT, Nat.reduceMul, Nat.reducePow, Int.reduceLE, Int.reduceLT, Int.reduceToNat, Int.reduceAdd, Int.reduceSub, Int.reduceMul, Int.reduceNeg, Int.reducePow, Nat.zero_add, Nat.zero_lt_succ, and_self, and_true, true_and, decide_true, decide_false, Bool.false_and, Bool.and_false, Bool.true_and, Bool.and_true, Bool.not_true, Bool.not_false, Bool.or_false, Bool.or_true, Bool.false_or, Bool.true_or, eq_self, Bool.false_eq_true, String.reduceBEq, String.reduceEq, beq_self_eq_true, List.all_cons, List.all_nil, List.any_cons, List.any_nil, itemsOf, cmulB, cpowB, is_integer_i, L.at_, lotK_places]
  rfl
def leftB (p : Nat) (st : List Nat) (a : Int) : Bool := isPl p a && st.getD a.toNat 0 == 46
theorem isPl_iff {p : Nat} {a : Int} : isPl p a = true ↔ ∃ n : Nat, n < p ∧ a = n := by
  unfold isPl
  rw [Bool.and_eq_true, decide_eq_true_eq, decide_eq_true_eq]
  exact ⟨fun h => ⟨a.toNat, by omega, by omega⟩, fun ⟨n, h1, h2⟩ => by omega⟩
theorem is_left_ok {p k : Nat} {rs : List (List Nat)} {kn : PV} {mu : List PV} (L : LC p rs kn mu k) (st : List Nat) (hl : st.length = p) (a : Int) : evF x_is_left [.ref k, .str st, .int a] mu = some (.ok (.bl (leftB p st a), false), mu) := by
  have hp := L.ro.pS
  rw [x_is_left, ev_fn (by rfl)]
  unfold leftB
  cases h : isPl p a with
  | false => simp (decide := true) (dsimp := false) only [cmp_ei, cmp_ni, cmp_es, cmp_ns, cmp_lt, cmp_le, cmp_gt, cmp_ge, cmp_is, cmp_isn, cmp_in, cmp_nin, ↓evR_comp, ↓evR_dcomp, ↓evR_tand, ↓evR_tor, ↓evR_and, ↓evR_or, ↓evR_ite, ↓evR_cmp2, ↓evS_ifs, iteB_t, iteB_f, iteK_t, iteK_f, iB_and, iB_and2, iB_or, iB_or2, iB_int, iB_str, iB_same, str1_eq, natc_eq, blsOf_f, strsOf_f, intsOf_f, blsOf_map, strsOf_map, intsOf_map, rangeP_n, ov_t, ov_f, wipeE, ix_tup0, ix_tup1, ix_tup2, ix_tup3, ix_lst0, ix_lst1, ix_lst2, ix_lst3, in01, List.all_map, List.any_map, ↓evS_for, ↓evS_whl, turnS_b, turnD_b, evF, fixN, evSs, evS, evR, evA, evL, evI, plc, tst, fz, ↓bd_k, ↓op1_k, bdk_rt, bdk_some, bdk_exc, fin_exc, ↓evS_try, tryS_rt, tryS_exc, evH, evX, excIs, exLt, wipeX, List.zip_nil_left, List.reverse_nil, List.reverse_cons, List.zip_cons_cons, op1k_some, setB, Sg.look, Sg.lookL, drf, Sg.put, entry, fin_ret, fin_nx, bindT, bindTs, callR, List.map_cons, List.map_nil, List.length_cons, List.length_nil, List.length_map, List.replicate_succ, List.replicate_zero, List.getElem?_cons_zero, List.getElem?_cons_succ, List.cons_append, List.nil_append, List.set_cons_zero, List.set_cons_succ, binP, binI, set_lst, p_len_l, p_len_t, p_len_k, p_len_s, p_int_i, p_int_b, p_tup_l, p_tup_t, p_lst_l, p_lst_t, p_srt_l, p_all_f, p_any_f, p_sum_l, metK, mutK, sameK, isinP, isOf, tyName, fput, putFP, keyOf, keyOf1, kindOf, part, isP, strsOf, intsOf, blsOf, b2n, Option.map_some, Option.bind_some, Option.map_none, Option.bind_none, truthy, reduceIte, if_true, if_false, isCont, Nat.reduceAdd, Nat.reduceSub, Nat.reduceLT, Nat.reduceMul, Nat.reducePow, Int.reduceLE, Int.reduceLT, Int.reduceToNat, Int.reduceAdd, Int.reduceSub, Int.reduceMul, Int.reduceNeg, Int.reducePow, Nat.zero_add, Nat.zero_lt_succ, and_self, and_true, true_and, decide_true, decide_false, Bool.false_and, Bool.and_false, Bool.true_and, Bool.and_true, Bool.not_true, Bool.not_false, Bool.or_false, Bool.or_true, Bool.false_or, Bool.true_or, eq_self, Bool.false_eq_true, String.reduceBEq, String.reduceEq, beq_self_eq_true, List.all_cons, List.all_nil, List.any_cons, List.any_nil, itemsOf, cmulB, cpowB, is_place_ok L a, h]
  | true =>
    obtain ⟨n, hn, rfl⟩ := isPl_iff.mp h
    simp (decide := true) (dsimp := false) only [cmp_ei, cmp_ni, cmp_es, cmp_ns, cmp_lt, cmp_le, cmp_gt, cmp_ge, cmp_is, cmp_isn, cmp_in, cmp_nin, ↓evR_comp, ↓evR_dcomp, ↓evR_tand, ↓evR_tor, ↓evR_and, ↓evR_or, ↓evR_ite, ↓evR_cmp2, ↓evS_ifs, iteB_t, iteB_f, iteK_t, iteK_f, iB_and, iB_and2, iB_or, iB_or2, iB_int, iB_str, iB_same, str1_eq, natc_eq, blsOf_f, strsOf_f, intsOf_f, blsOf_map, strsOf_map, intsOf_map, rangeP_n, ov_t, ov_f, wipeE, ix_tup0, ix_tup1, ix_tup2, ix_tup3, ix_lst0, ix_lst1, ix_lst2, ix_lst3, in01, List.all_map, List.any_map, ↓evS_for, ↓evS_whl, turnS_b, turnD_b, evF, fixN, evSs, evS, evR, evA, evL, evI, plc, tst, fz, ↓bd_k, ↓op1_k, bdk_rt, bdk_some, bdk_exc, fin_exc, ↓evS_try, tryS_rt, tryS_exc, evH, evX, excIs, exLt, wipeX, List.zip_nil_left, List.reverse_nil, List.reverse_cons, List.zip_cons_cons, op1k_some, setB, Sg.look, Sg.lookL, drf, Sg.put, entry, fin_ret, fin_nx, bindT, bindTs, callR, List.map_cons, List.map_nil, List.length_cons, List.length_nil, List.length_map, List.replicate_succ, List.replicate_zero, List.getElem?_cons_zero, List.getElem?_cons_succ, List.cons_append, List.nil_append, List.set_cons_zero, List.set_cons_succ, binP, binI, set_lst, p_len_l, p_len_t, p_len_k, p_len_s, p_int_i, p_int_b, p_tup_l, p_tup_t, p_lst_l, p_lst_t, p_srt_l, p_all_f, p_any_f, p_sum_l, metK, mutK, sameK, isinP, isOf, tyName, fput, putFP, keyOf, keyOf1, kindOf, part, isP, strsOf, intsOf, blsOf, b2n, Option.map_some, Option.bind_some, Option.map_none, Option.bind_none, truthy, reduceIte, if_true, if_false, isCont, Nat.reduceAdd, Nat.reduceSub, Nat.reduceLT, Nat.reduceMul, Nat.reducePow, Int.reduceLE, Int.reduceLT, Int.reduceToNat, Int.reduceAdd, Int.reduceSub, Int.reduceMul, Int.reduceNeg, Int.reducePow, Nat.zero_add, Nat.zero_lt_succ, and_self, and_true, true_and, decide_true, decide_false, Bool.false_and, Bool.and_false, Bool.true_and, Bool.and_true, Bool.not_true, Bool.not_false, Bool.or_false, Bool.or_true, Bool.false_or, Bool.true_or, eq_self, Bool.false_eq_true, String.reduceBEq, String.reduceEq, beq_self_eq_true, List.all_cons, List.all_nil, List.any_cons, List.any_nil, itemsOf, cmulB, cpowB, is_place_ok L n, h, idx_chr (s := st) (i := n) (by omega) (by omega), Int.toNat_natCast]
theorem is_sign_1 {c : Nat} {mu : List PV} : evF x_is_sign [.str [c]] mu = some (.ok (.bl (sg01 c), false), mu) := by
  rw [x_is_sign, ev_fn (by rfl)]
  simp (decide := true) (dsimp := false) only [cmp_ei, cmp_ni, cmp_es, cmp_ns, cmp_lt, cmp_le, cmp_gt, cmp_ge, cmp_is, cmp_isn, cmp_in, cmp_nin, ↓evR_comp, ↓evR_dcomp, ↓evR_tand, ↓evR_tor, ↓evR_and, ↓evR_or, ↓evR_ite, ↓evR_cmp2, ↓evS_ifs, iteB_t, iteB_f, iteK_t, iteK_f, iB_and, iB_and2, iB_or, iB_or2, iB_int, iB_str, iB_same, str1_eq, natc_eq, blsOf_f, strsOf_f, intsOf_f, blsOf_map, strsOf_map, intsOf_map, rangeP_n, ov_t, ov_f, wipeE, ix_tup0, ix_tup1, ix_tup2, ix_tup3, ix_lst0, ix_lst1, ix_lst2, ix_lst3, in01, List.all_map, List.any_map, ↓evS_for, ↓evS_whl, turnS_b, turnD_b, evF, fixN, evSs, evS, evR, evA, evL, evI, plc, tst, fz, ↓bd_k, ↓op1_k, bdk_rt, bdk_some, bdk_exc, fin_exc, ↓evS_try, tryS_rt, tryS_exc, evH, evX, excIs, exLt, wipeX, List.zip_nil_left, List.reverse_nil, List.reverse_cons, List.zip_cons_cons, op1k_some, setB, Sg.look, Sg.lookL, drf, Sg.put, entry, fin_ret, fin_nx, bindT, bindTs, callR, List.map_cons, List.map_nil, List.length_cons, List.length_nil, List.length_map, List.replicate_succ, List.replicate_zero, List.getElem?_cons_zero, List.getElem?_cons_succ, List.cons_append, List.nil_append, List.set_cons_zero, List.set_cons_succ, binP, binI, set_lst, p_len_l, p_len_t, p_len_k, p_len_s, p_int_i, p_int_b, p_tup_l, p_tup_t, p_lst_l, p_lst_t, p_srt_l, p_all_f, p_any_f, p_sum_l, metK, mutK, sameK, isinP, isOf, tyName, fput, putFP, keyOf, keyOf1, kindOf, part, isP, strsOf, intsOf, blsOf, b2n, Option.map_some, Option.bind_some, Option.map_none, Option.bind_none, truthy, reduceIte, if_true, if_false, isCont, Nat.reduceAdd, Nat.reduceSub, Nat.reduceLT, Nat.reduceMul, Nat.reducePow, Int.reduceLE, Int.reduceLT, Int.reduceToNat, Int.reduceAdd, Int.reduceSub, Int.reduceMul, Int.reduceNeg, Int.reducePow, Nat.zero_add, Nat.zero_lt_succ, and_self, and_true, true_and, decide_true, decide_false, Bool.false_and, Bool.and_false, Bool.true_and, Bool.and_true, Bool.not_true, Bool.not_false, Bool.or_false, Bool.or_true, Bool.false_or, Bool.true_or, eq_self, Bool.false_eq_true, String.reduceBEq, String.reduceEq, beq_self_eq_true, List.all_cons, List.all_nil, List.any_cons, List.any_nil, itemsOf, cmulB, cpowB]
theorem cut_to {α : Type} {xs : List α} {i : Nat} : cut' xs none (some (i : Int)) = xs.take i := cut_take
theorem cut_from {α : Type} {xs : List α} {i : Nat} : cut' xs (some (i : Int)) none = xs.drop i := by
  show (xs.drop (if (i : Int) < 0 then ((i : Int) + xs.length).toNat else min (i : Int).toNat xs.length)).take (xs.length - (if (i : Int) < 0 then ((i : Int) + xs.length).toNat else min (i : Int).toNat xs.length)) = _
  rw [if_neg (by omega), Int.toNat_natCast]
  rw [List.take_of_length_le (by rw [List.length_drop]; omega)]
  by_cases h : i ≤ xs.length
  · rw [Nat.min_eq_left h]
  · rw [Nat.min_eq_right (by omega), List.drop_eq_nil_of_le (Nat.le_refl _), List.drop_eq_nil_of_le (by omega)]
theorem slc_to {s : List Nat} {i : Nat} (h : s.length ≤ SL) : slcP (.str s) none (some (i : Int)) = some (.str (s.take i), false) := by
  show (if s.length ≤ SL then some (PV.str (cut' s none (some (i : Int))), false) else none) = _
  rw [if_pos h, cut_to]
theorem slc_from {s : List Nat} {i : Nat} (h : s.length ≤ SL) : slcP (.str s) (some ((i : Int) + 1)) none = some (.str (s.drop (i + 1)), false) := by
  show (if s.length ≤ SL then some (PV.str (cut' s (some ((i : Int) + 1)) none), false) else none) = _
  rw [if_pos h, show (i : Int) + 1 = ((i + 1 : Nat) : Int) from rfl, cut_from]
theorem set_cut {s : List Nat} {i c : Nat} (h : i < s.length) : (s.take i ++ [c]) ++ s.drop (i + 1) = s.set i c := by
  rw [List.set_eq_take_append_cons_drop, if_pos h]; simp
theorem with_sign_ok {p : Nat} (hp : p ≤ 10) {st : List Nat} (hl : st.length = p) {a : Nat} (ha : a < p) (c : Nat) (mu : List PV) : evF x_with_sign [.str st, .int a, .str [c]] mu = some (.ok (.str (st.set a c), false), mu) := by
  have h1 : st.length ≤ SL := by simp [SL]; omega
  have h2 : (st.take a).length + 1 ≤ SL := by rw [List.length_take]; simp [SL]; omega
  have h3 : (st.take a ++ [c]).length + (st.drop (a + 1)).length ≤ SL := by simp [SL]; omega
  rw [x_with_sign, ev_fn (by rfl)]
  simp (decide := true) (dsimp := false) only [cmp_ei, cmp_ni, cmp_es, cmp_ns, cmp_lt, cmp_le, cmp_gt, cmp_ge, cmp_is, cmp_isn, cmp_in, cmp_nin, ↓evR_comp, ↓evR_dcomp, ↓evR_tand, ↓evR_tor, ↓evR_and, ↓evR_or, ↓evR_ite, ↓evR_cmp2, ↓evS_ifs, iteB_t, iteB_f, iteK_t, iteK_f, iB_and, iB_and2, iB_or, iB_or2, iB_int, iB_str, iB_same, str1_eq, natc_eq, blsOf_f, strsOf_f, intsOf_f, blsOf_map, strsOf_map, intsOf_map, rangeP_n, ov_t, ov_f, wipeE, ix_tup0, ix_tup1, ix_tup2, ix_tup3, ix_lst0, ix_lst1, ix_lst2, ix_lst3, in01, List.all_map, List.any_map, ↓evS_for, ↓evS_whl, turnS_b, turnD_b, evF, fixN, evSs, evS, evR, evA, evL, evI, plc, tst, fz, ↓bd_k, ↓op1_k, bdk_rt, bdk_some, bdk_exc, fin_exc, ↓evS_try, tryS_rt, tryS_exc, evH, evX, excIs, exLt, wipeX, List.zip_nil_left, List.reverse_nil, List.reverse_cons, List.zip_cons_cons, op1k_some, setB, Sg.look, Sg.lookL, drf, Sg.put, entry, fin_ret, fin_nx, bindT, bindTs, callR, List.map_cons, List.map_nil, List.length_cons, List.length_nil, List.length_map, List.replicate_succ, List.replicate_zero, List.getElem?_cons_zero, List.getElem?_cons_succ, List.cons_append, List.nil_append, List.set_cons_zero, List.set_cons_succ, binP, binI, set_lst, p_len_l, p_len_t, p_len_k, p_len_s, p_int_i, p_int_b, p_tup_l, p_tup_t, p_lst_l, p_lst_t, p_srt_l, p_all_f, p_any_f, p_sum_l, metK, mutK, sameK, isinP, isOf, tyName, fput, putFP, keyOf, keyOf1, kindOf, part, isP, strsOf, intsOf, blsOf, b2n, Option.map_some, Option.bind_some, Option.map_none, Option.bind_none, truthy, reduceIte, if_true, if_false, isCont, Nat.reduceAdd, Nat.reduceSub, Nat.reduceLT, Nat.reduceMul, Nat.reducePow, Int.reduceLE, Int.reduceLT, Int.reduceToNat, Int.reduceAdd, Int.reduceSub, Int.reduceMul, Int.reduceNeg, Int.reducePow, Nat.zero_add, Nat.zero_lt_succ, and_self, and_true, true_and, decide_true, decide_false, Bool.false_and, Bool.and_false, Bool.true_and, Bool.and_true, Bool.not_true, Bool.not_false, Bool.or_false, Bool.or_true, Bool.false_or, Bool.true_or, eq_self, Bool.false_eq_true, String.reduceBEq, String.reduceEq, beq_self_eq_true, List.all_cons, List.all_nil, List.any_cons, List.any_nil, itemsOf, cmulB, cpowB, slc_to h1, slc_from h1, h2, h3, set_cut (s := st) (i := a) (c := c) (by omega)]
theorem told_place {p k : Nat} {rs : List (List Nat)} {kn : PV} {mu : List PV} (L : LC p rs kn mu k) (st : List Nat) (h : isSt p rs st = true) (a : Int) (c : PV) (hn : leftB p st a = false) : evF x_told [.ref k, .str st, .int a, c] mu = some (.exc "BadPlace" [("place", .int a)], mu) := by
  have hl := isSt_len h
  rw [x_told, ev_fn (by rfl)]
  simp (decide := true) (dsimp := false) only [cmp_ei, cmp_ni, cmp_es, cmp_ns, cmp_lt, cmp_le, cmp_gt, cmp_ge, cmp_is, cmp_isn, cmp_in, cmp_nin, ↓evR_comp, ↓evR_dcomp, ↓evR_tand, ↓evR_tor, ↓evR_and, ↓evR_or, ↓evR_ite, ↓evR_cmp2, ↓evS_ifs, iteB_t, iteB_f, iteK_t, iteK_f, iB_and, iB_and2, iB_or, iB_or2, iB_int, iB_str, iB_same, str1_eq, natc_eq, blsOf_f, strsOf_f, intsOf_f, blsOf_map, strsOf_map, intsOf_map, rangeP_n, ov_t, ov_f, wipeE, ix_tup0, ix_tup1, ix_tup2, ix_tup3, ix_lst0, ix_lst1, ix_lst2, ix_lst3, in01, List.all_map, List.any_map, ↓evS_for, ↓evS_whl, turnS_b, turnD_b, evF, fixN, evSs, evS, evR, evA, evL, evI, plc, tst, fz, ↓bd_k, ↓op1_k, bdk_rt, bdk_some, bdk_exc, fin_exc, ↓evS_try, tryS_rt, tryS_exc, evH, evX, excIs, exLt, wipeX, List.zip_nil_left, List.reverse_nil, List.reverse_cons, List.zip_cons_cons, op1k_some, setB, Sg.look, Sg.lookL, drf, Sg.put, entry, fin_ret, fin_nx, bindT, bindTs, callR, List.map_cons, List.map_nil, List.length_cons, List.length_nil, List.length_map, List.replicate_succ, List.replicate_zero, List.getElem?_cons_zero, List.getElem?_cons_succ, List.cons_append, List.nil_append, List.set_cons_zero, List.set_cons_succ, binP, binI, set_lst, p_len_l, p_len_t, p_len_k, p_len_s, p_int_i, p_int_b, p_tup_l, p_tup_t, p_lst_l, p_lst_t, p_srt_l, p_all_f, p_any_f, p_sum_l, metK, mutK, sameK, isinP, isOf, tyName, fput, putFP, keyOf, keyOf1, kindOf, part, isP, strsOf, intsOf, blsOf, b2n, Option.map_some, Option.bind_some, Option.map_none, Option.bind_none, truthy, reduceIte, if_true, if_false, isCont, Nat.reduceAdd, Nat.reduceSub, Nat.reduceLT, Nat.reduceMul, Nat.reducePow, Int.reduceLE, Int.reduceLT, Int.reduceToNat, Int.reduceAdd, Int.reduceSub, Int.reduceMul, Int.reduceNeg, Int.reducePow, Nat.zero_add, Nat.zero_lt_succ, and_self, and_true, true_and, decide_true, decide_false, Bool.false_and, Bool.and_false, Bool.true_and, Bool.and_true, Bool.not_true, Bool.not_false, Bool.or_false, Bool.or_true, Bool.false_or, Bool.true_or, eq_self, Bool.false_eq_true, String.reduceBEq, String.reduceEq, beq_self_eq_true, List.all_cons, List.all_nil, List.any_cons, List.any_nil, itemsOf, cmulB, cpowB, check_ok L st (by rw [hl]; exact L.ro.pS) h, is_left_ok L st hl a, hn]
theorem told_row {p k : Nat} {rs : List (List Nat)} {kn : PV} {mu : List PV} (L : LC p rs kn mu k) (st : List Nat) (h : isSt p rs st = true) {a : Nat} {c : Nat} (hn : leftB p st a = true) (hc : sg01 c = true) (hr : isSt p rs (st.set a c) = false) : evF x_told [.ref k, .str st, .int a, .str [c]] mu = some (.exc "NoRow" [], mu) := by
  have hl := isSt_len h
  have hp := L.ro.p10
  have ha : a < p := by
    unfold leftB at hn
    rw [Bool.and_eq_true] at hn
    obtain ⟨n, h1, h2⟩ := isPl_iff.mp hn.1
    omega
  rw [x_told, ev_fn (by rfl)]
  simp (decide := true) (dsimp := false) only [cmp_ei, cmp_ni, cmp_es, cmp_ns, cmp_lt, cmp_le, cmp_gt, cmp_ge, cmp_is, cmp_isn, cmp_in, cmp_nin, ↓evR_comp, ↓evR_dcomp, ↓evR_tand, ↓evR_tor, ↓evR_and, ↓evR_or, ↓evR_ite, ↓evR_cmp2, ↓evS_ifs, iteB_t, iteB_f, iteK_t, iteK_f, iB_and, iB_and2, iB_or, iB_or2, iB_int, iB_str, iB_same, str1_eq, natc_eq, blsOf_f, strsOf_f, intsOf_f, blsOf_map, strsOf_map, intsOf_map, rangeP_n, ov_t, ov_f, wipeE, ix_tup0, ix_tup1, ix_tup2, ix_tup3, ix_lst0, ix_lst1, ix_lst2, ix_lst3, in01, List.all_map, List.any_map, ↓evS_for, ↓evS_whl, turnS_b, turnD_b, evF, fixN, evSs, evS, evR, evA, evL, evI, plc, tst, fz, ↓bd_k, ↓op1_k, bdk_rt, bdk_some, bdk_exc, fin_exc, ↓evS_try, tryS_rt, tryS_exc, evH, evX, excIs, exLt, wipeX, List.zip_nil_left, List.reverse_nil, List.reverse_cons, List.zip_cons_cons, op1k_some, setB, Sg.look, Sg.lookL, drf, Sg.put, entry, fin_ret, fin_nx, bindT, bindTs, callR, List.map_cons, List.map_nil, List.length_cons, List.length_nil, List.length_map, List.replicate_succ, List.replicate_zero, List.getElem?_cons_zero, List.getElem?_cons_succ, List.cons_append, List.nil_append, List.set_cons_zero, List.set_cons_succ, binP, binI, set_lst, p_len_l, p_len_t, p_len_k, p_len_s, p_int_i, p_int_b, p_tup_l, p_tup_t, p_lst_l, p_lst_t, p_srt_l, p_all_f, p_any_f, p_sum_l, metK, mutK, sameK, isinP, isOf, tyName, fput, putFP, keyOf, keyOf1, kindOf, part, isP, strsOf, intsOf, blsOf, b2n, Option.map_some, Option.bind_some, Option.map_none, Option.bind_none, truthy, reduceIte, if_true, if_false, isCont, Nat.reduceAdd, Nat.reduceSub, Nat.reduceLT, Nat.reduceMul, Nat.reducePow, Int.reduceLE, Int.reduceLT, Int.reduceToNat, Int.reduceAdd, Int.reduceSub, Int.reduceMul, Int.reduceNeg, Int.reducePow, Nat.zero_add, Nat.zero_lt_succ, and_self, and_true, true_and, decide_true, decide_false, Bool.false_and, Bool.and_false, Bool.true_and, Bool.and_true, Bool.not_true, Bool.not_false, Bool.or_false, Bool.or_true, Bool.false_or, Bool.true_or, eq_self, Bool.false_eq_true, String.reduceBEq, String.reduceEq, beq_self_eq_true, List.all_cons, List.all_nil, List.any_cons, List.any_nil, itemsOf, cmulB, cpowB, check_ok L st (by rw [hl]; exact L.ro.pS) h, is_left_ok L st hl a, hn, is_sign_1, hc, with_sign_ok hp hl ha c, is_standing_ok L (st.set a c) (by rw [List.length_set, hl]; exact L.ro.pS), hr]
theorem told_ok {p k : Nat} {rs : List (List Nat)} {kn : PV} {mu : List PV} (L : LC p rs kn mu k) (st : List Nat) (h : isSt p rs st = true) {a : Nat} {c : Nat} (hn : leftB p st a = true) (hc : sg01 c = true) (hr : isSt p rs (st.set a c) = true) : evF x_told [.ref k, .str st, .int a, .str [c]] mu = some (.ok (.str (st.set a c), false), mu) := by
  have hl := isSt_len h
  have hp := L.ro.p10
  have ha : a < p := by
    unfold leftB at hn
    rw [Bool.and_eq_true] at hn
    obtain ⟨n, h1, h2⟩ := isPl_iff.mp hn.1
    omega
  rw [x_told, ev_fn (by rfl)]
  simp (decide := true) (dsimp := false) only [cmp_ei, cmp_ni, cmp_es, cmp_ns, cmp_lt, cmp_le, cmp_gt, cmp_ge, cmp_is, cmp_isn, cmp_in, cmp_nin, ↓evR_comp, ↓evR_dcomp, ↓evR_tand, ↓evR_tor, ↓evR_and, ↓evR_or, ↓evR_ite, ↓evR_cmp2, ↓evS_ifs, iteB_t, iteB_f, iteK_t, iteK_f, iB_and, iB_and2, iB_or, iB_or2, iB_int, iB_str, iB_same, str1_eq, natc_eq, blsOf_f, strsOf_f, intsOf_f, blsOf_map, strsOf_map, intsOf_map, rangeP_n, ov_t, ov_f, wipeE, ix_tup0, ix_tup1, ix_tup2, ix_tup3, ix_lst0, ix_lst1, ix_lst2, ix_lst3, in01, List.all_map, List.any_map, ↓evS_for, ↓evS_whl, turnS_b, turnD_b, evF, fixN, evSs, evS, evR, evA, evL, evI, plc, tst, fz, ↓bd_k, ↓op1_k, bdk_rt, bdk_some, bdk_exc, fin_exc, ↓evS_try, tryS_rt, tryS_exc, evH, evX, excIs, exLt, wipeX, List.zip_nil_left, List.reverse_nil, List.reverse_cons, List.zip_cons_cons, op1k_some, setB, Sg.look, Sg.lookL, drf, Sg.put, entry, fin_ret, fin_nx, bindT, bindTs, callR, List.map_cons, List.map_nil, List.length_cons, List.length_nil, List.length_map, List.replicate_succ, List.replicate_zero, List.getElem?_cons_zero, List.getElem?_cons_succ, List.cons_append, List.nil_append, List.set_cons_zero, List.set_cons_succ, binP, binI, set_lst, p_len_l, p_len_t, p_len_k, p_len_s, p_int_i, p_int_b, p_tup_l, p_tup_t, p_lst_l, p_lst_t, p_srt_l, p_all_f, p_any_f, p_sum_l, metK, mutK, sameK, isinP, isOf, tyName, fput, putFP, keyOf, keyOf1, kindOf, part, isP, strsOf, intsOf, blsOf, b2n, Option.map_some, Option.bind_some, Option.map_none, Option.bind_none, truthy, reduceIte, if_true, if_false, isCont, Nat.reduceAdd, Nat.reduceSub, Nat.reduceLT, Nat.reduceMul, Nat.reducePow, Int.reduceLE, Int.reduceLT, Int.reduceToNat, Int.reduceAdd, Int.reduceSub, Int.reduceMul, Int.reduceNeg, Int.reducePow, Nat.zero_add, Nat.zero_lt_succ, and_self, and_true, true_and, decide_true, decide_false, Bool.false_and, Bool.and_false, Bool.true_and, Bool.and_true, Bool.not_true, Bool.not_false, Bool.or_false, Bool.or_true, Bool.false_or, Bool.true_or, eq_self, Bool.false_eq_true, String.reduceBEq, String.reduceEq, beq_self_eq_true, List.all_cons, List.all_nil, List.any_cons, List.any_nil, itemsOf, cmulB, cpowB, check_ok L st (by rw [hl]; exact L.ro.pS) h, is_left_ok L st hl a, hn, is_sign_1, hc, with_sign_ok hp hl ha c, is_standing_ok L (st.set a c) (by rw [List.length_set, hl]; exact L.ro.pS), hr]
theorem getD_set {st : List Nat} {a b c : Nat} (ha : a < st.length) : (st.set a c).getD b 0 = if a = b then c else st.getD b 0 := by
  rw [List.getD_eq_getElem?_getD, List.getElem?_set, List.getD_eq_getElem?_getD]
  by_cases e : a = b
  · rw [if_pos e, if_pos e, if_pos (e ▸ ha)]; rfl
  · rw [if_neg e, if_neg e]
theorem fits_set {p : Nat} {r st : List Nat} (hr : r.length = p) (hl : st.length = p) {a c : Nat} (ha : a < p) (hd : st.getD a 0 = 46) (hc : c ≠ 46) : fitsB r (st.set a c) = (fitsB r st && r.getD a 0 == c) := by
  rw [Bool.eq_iff_iff, Bool.and_eq_true, fits_iff (by rw [List.length_set]; omega), fits_iff (by omega), beq_iff_eq, List.length_set]
  constructor
  · intro h
    refine ⟨fun b hb => ?_, ?_⟩
    · have := h b hb
      rw [getD_set (by omega)] at this
      by_cases e : a = b
      · subst e; exact .inl hd
      · rwa [if_neg e] at this
    · have := h a (by omega)
      rw [getD_set (by omega), if_pos rfl] at this
      exact (this.resolve_left hc).symm
  · rintro ⟨h1, h2⟩ b hb
    rw [getD_set (by omega)]
    by_cases e : a = b
    · subst e; rw [if_pos rfl]; exact .inr h2.symm
    · rw [if_neg e]; exact h1 b hb
theorem rowsAt_set {p : Nat} {rs : List (List Nat)} {st : List Nat} (hr : ∀ r ∈ rs, r.length = p) (hl : st.length = p) {a c : Nat} (ha : a < p) (hd : st.getD a 0 = 46) (hc : c ≠ 46) : rowsAt rs (st.set a c) = sgAt a c (rowsAt rs st) := by
  unfold rowsAt sgAt
  rw [List.filter_filter]
  refine List.filter_congr fun r h => ?_
  rw [fits_set (hr r h) hl ha hd hc, Bool.and_comm]
theorem sg01_iff {c : Nat} : sg01 c = true ↔ c = 48 ∨ c = 49 := by
  unfold sg01
  simp
theorem all_set {P : Nat → Bool} {st : List Nat} (h : st.all P = true) {a c : Nat} (hc : P c = true) : (st.set a c).all P = true := by
  rw [List.all_eq_true] at h ⊢
  intro x hx
  rcases List.mem_or_eq_of_mem_set hx with h1 | h1
  · exact h x h1
  · rw [h1]; exact hc
theorem isSt_set {p : Nat} {rs : List (List Nat)} (h : RowsOk p rs) {st : List Nat} (hs : isSt p rs st = true) {a c : Nat} (ha : a < p) (hd : st.getD a 0 = 46) (hc : sg01 c = true) : isSt p rs (st.set a c) = decide (0 < (sgAt a c (rowsAt rs st)).length) := by
  have hl := isSt_len hs
  rw [isSt_iff (by rw [List.length_set]; exact hl) (all_set (isSt_mark hs) (by unfold markB; rw [hc]; rfl)), rowsAt_set h.len hl ha hd (by rcases sg01_iff.mp hc with h | h <;> omega)]
theorem leftB_iff {p : Nat} {st : List Nat} {a : Int} : leftB p st a = true ↔ ∃ n : Nat, n < p ∧ a = n ∧ st.getD n 0 = 46 := by
  unfold leftB
  rw [Bool.and_eq_true, isPl_iff, beq_iff_eq]
  constructor
  · rintro ⟨⟨n, h1, rfl⟩, h2⟩
    exact ⟨n, h1, rfl, by simpa using h2⟩
  · rintro ⟨n, h1, rfl, h2⟩
    exact ⟨⟨n, h1, rfl⟩, by simpa using h2⟩
/-- a sign that all rows have is one of both -/
theorem row_sg {p : Nat} {rs : List (List Nat)} (h : RowsOk p rs) {r : List Nat} (hr : r ∈ rs) {a : Nat} (ha : a < p) : r.getD a 0 = 48 ∨ r.getD a 0 = 49 := by
  have h1 := h.len r hr
  have h2 := List.all_eq_true.mp (h.sgn r hr) r[a] (List.getElem_mem _)
  rw [List.getD_eq_getElem?_getD, List.getElem?_eq_getElem (by omega)]
  exact sg01_iff.mp h2
theorem sort_parts {p : Nat} {rs : List (List Nat)} (h : RowsOk p rs) {R : List (List Nat)} (hR : ∀ r ∈ R, r ∈ rs) (asc : AscS R) {a : Nat} (ha : a < p) : sortS (sgAt a 48 R ++ sgAt a 49 R) = R := by
  refine sortS_of_perm (fil_perm fun r hr => ?_) asc
  rcases row_sg h (hR r hr) ha with e | e <;> rw [e] <;> rfl
theorem AscS.fil {l : List (List Nat)} (h : AscS l) {P : List Nat → Bool} : AscS (l.filter P) := List.Pairwise.filter _ h
end Lk

namespace Lk
/-- all texts of p marks -/
def allSt : Nat → List (List Nat)
  | 0 => [[]]
  | p + 1 => (allSt p).flatMap fun t => [t ++ [48], t ++ [49], t ++ [46]]
theorem allSt_len : ∀ {p : Nat}, (allSt p).length = 3 ^ p
  | 0 => rfl
  | p + 1 => by
    unfold allSt
    have h : ∀ l : List (List Nat), (l.flatMap fun t => [t ++ [48], t ++ [49], t ++ [46]]).length = 3 * l.length := by
      intro l
      induction l with
      | nil => rfl
      | cons x r ih => rw [List.flatMap_cons, List.length_append, ih]; simp; omega
    rw [h, allSt_len, Nat.pow_succ]; omega
theorem allSt_mem : ∀ {p : Nat} {t : List Nat}, t ∈ allSt p → t.length = p ∧ t.all markB = true
  | 0, t, h => by
    have : t = [] := by simpa [allSt] using h
    subst this; exact ⟨rfl, rfl⟩
  | p + 1, t, h => by
    unfold allSt at h
    obtain ⟨u, hu, ht⟩ := List.mem_flatMap.mp h
    obtain ⟨h1, h2⟩ := allSt_mem hu
    simp only [List.mem_cons, List.not_mem_nil, or_false] at ht
    rcases ht with rfl | rfl | rfl <;> exact ⟨by simp [h1], by rw [List.all_append, h2]; rfl⟩
theorem ext_ok {xs ys : List PV} (hl : xs.length + ys.length ≤ SL) : mutP .extend (.lst xs) [.lst ys] = some (.lst (xs ++ ys), .non) := if_pos hl
theorem strings_ok (p : Nat) (hp : p ≤ 4) (mu : List PV) : ∃ b, evF x__law_strings [.int p] mu = some (.ok (.lst ((allSt p).map .str), b), mu) := by
  have three : ∀ i, i ≤ 4 → (allSt i).length ≤ 81 := fun i hi => by rw [allSt_len]; exact Nat.pow_le_pow_right (n := 3) (j := 4) (by decide) hi
  -- one turn of the inner loop
  have inner : ∀ (i : Nat) (hi : i < 4) (x2 x4 : Cell), ∃ y4, forS (.name 4) x__law_strings_b1 (fun _ _ => none) ((allSt i).map .str) ⟨[.val (.int p), .val (.lst ((allSt i).map .str)), x2, .own (.lst []), x4, .non], mu⟩ =
      rt .nx ⟨[.val (.int p), .val (.lst ((allSt i).map .str)), x2, .own (.lst ((allSt (i + 1)).map .str)), y4, .non], mu⟩ := fun i hi x2 x4 => by
    obtain ⟨s', e, y4, rfl⟩ := forS_nx (t := .name 4) (body := x__law_strings_b1) (F := fun _ _ => none) (xs := (allSt i).map .str) (s := ⟨[.val (.int p), .val (.lst ((allSt i).map .str)), x2, .own (.lst []), x4, .non], mu⟩)
      (fun j s => ∃ y4, s = ⟨[.val (.int p), .val (.lst ((allSt i).map .str)), x2, .own (.lst ((((allSt i).take j).flatMap fun t => [t ++ [48], t ++ [49], t ++ [46]]).map .str)), y4, .non], mu⟩) ⟨x4, by simp⟩ (fun j x s hx hs => by
        obtain ⟨y4, rfl⟩ := hs
        rw [List.getElem?_map] at hx
        cases hq : (allSt i)[j]? with
        | none => rw [hq] at hx; cases hx
        | some t =>
          rw [hq] at hx
          cases hx
          have h81 := three i (by omega)
          have ht := (allSt_mem (List.mem_of_getElem? hq)).1
          have hj := (List.getElem?_eq_some_iff.mp hq).1
          have hcnt : ((((allSt i).take j).flatMap fun t => [t ++ [48], t ++ [49], t ++ [46]]).map PV.str).length ≤ 3 * 81 := by
            have h : ∀ l : List (List Nat), (l.flatMap fun t => [t ++ [48], t ++ [49], t ++ [46]]).length = 3 * l.length := by
              intro l
              induction l with
              | nil => rfl
              | cons x r ih => rw [List.flatMap_cons, List.length_append, ih]; simp; omega
            rw [List.length_map, h, List.length_take]; omega
          have hsl : t.length + 1 ≤ SL := by rw [ht]; simp [SL]; omega
          have hc : compS [5] (.name 5) (.cst (.bl true)) x__law_strings_e0 (fun _ _ => none) [.str [48], .str [49], .str [46]] ⟨[.val (.int p), .val (.lst ((allSt i).map .str)), x2, .own (.lst ((((allSt i).take j).flatMap fun t => [t ++ [48], t ++ [49], t ++ [46]]).map .str)), .val (.str t), .non], mu⟩ =
              rt [.str (t ++ [48]), .str (t ++ [49]), .str (t ++ [46])] ⟨[.val (.int p), .val (.lst ((allSt i).map .str)), x2, .own (.lst ((((allSt i).take j).flatMap fun t => [t ++ [48], t ++ [49], t ++ [46]]).map .str)), .val (.str t), .non], mu⟩ := by
            refine (compS_pure (fun x => match x with | .str c => some (.str (t ++ c)) | _ => none) rfl (fun x hx => ?_) (by simp [SL])).trans rfl
            have : ∃ c, x = .str [c] := by
              simp only [List.mem_cons, List.not_mem_nil, or_false] at hx
              rcases hx with rfl | rfl | rfl <;> exact ⟨_, rfl⟩
            obtain ⟨c, rfl⟩ := this
            refine ⟨[.val (.int p), .val (.lst ((allSt i).map .str)), x2, .own (.lst ((((allSt i).take j).flatMap fun t => [t ++ [48], t ++ [49], t ++ [46]]).map .str)), .val (.str t), .val (.str [c])], ?_, rfl⟩
            unfold x__law_strings_e0
            simp (decide := true) only [cmp_ei, cmp_ni, cmp_es, cmp_ns, cmp_lt, cmp_le, cmp_gt, cmp_ge, cmp_is, cmp_isn, cmp_in, cmp_nin, ↓evR_comp, ↓evR_dcomp, ↓evS_for, ↓evS_whl, turnS, turnD, evF, fixN, evSs, evS, evR, evA, evL, evI, plc, tst, fz, ↓bd_k, ↓op1_k, bdk_rt, bdk_some, bdk_exc, fin_exc, ↓evS_try, tryS_rt, tryS_exc, evH, evX, excIs, exLt, wipeX, List.zip_nil_left, List.reverse_nil, List.reverse_cons, List.zip_cons_cons, op1k_some, setB, Sg.look, Sg.lookL, drf, Sg.put, entry, fin_ret, fin_nx, bindT, bindTs, callR, List.map_cons, List.map_nil, List.length_cons, List.length_nil, List.length_map, List.replicate_succ, List.replicate_zero, List.getElem?_cons_zero, List.getElem?_cons_succ, List.cons_append, List.nil_append, List.set_cons_zero, List.set_cons_succ, binP, binI, set_lst, p_len_l, p_len_t, p_len_k, p_len_s, p_int_i, p_int_b, p_tup_l, p_tup_t, p_lst_l, p_lst_t, p_srt_l, p_all_l, p_any_l, p_sum_l, metK, mutK, sameK, isinP, isOf, tyName, fput, putFP, keyOf, keyOf1, kindOf, part, isP, strsOf, intsOf, blsOf, b2n, Option.map_some, Option.bind_some, Option.map_none, Option.bind_none, truthy, reduceIte, if_true, if_false, isCont, Nat.reduceAdd, Nat.reduceSub, Nat.reduceLT, Nat.reduceMul, Nat.reducePow, Int.reduceLE, Int.reduceLT, Int.reduceToNat, Int.reduceAdd, Int.reduceSub, Int.reduceMul, Int.reduceNeg, Int.reducePow, Nat.zero_add, Nat.zero_lt_succ, and_self, and_true, true_and, decide_true, decide_false, Bool.false_and, Bool.and_false, Bool.true_and, Bool.and_true, Bool.not_true, Bool.not_false, Bool.or_false, Bool.or_true, Bool.false_or, Bool.true_or, eq_self, Bool.false_eq_true, String.reduceBEq, String.reduceEq, beq_self_eq_true, List.all_cons, List.all_nil, List.any_cons, List.any_nil, itemsOf, cmulB, cpowB, wipeE, hsl]
          refine ⟨_, ⟨[.val (.int p), .val (.lst ((allSt i).map .str)), x2, .own (.lst ((((allSt i).take (j + 1)).flatMap fun t => [t ++ [48], t ++ [49], t ++ [46]]).map .str)), .val (.str t), .non], mu⟩, rfl, ?_, _, rfl⟩
          rw [List.take_add_one, hq]
          simp only [Option.toList_some, List.flatMap_append, List.flatMap_cons, List.flatMap_nil, List.append_nil, List.map_append]
          unfold x__law_strings_b1
          simp (decide := true) only [cmp_ei, cmp_ni, cmp_es, cmp_ns, cmp_lt, cmp_le, cmp_gt, cmp_ge, cmp_is, cmp_isn, cmp_in, cmp_nin, ↓evR_comp, ↓evR_dcomp, ↓evS_for, ↓evS_whl, turnS, turnD, evF, fixN, evSs, evS, evR, evA, evL, evI, plc, tst, fz, ↓bd_k, ↓op1_k, bdk_rt, bdk_some, bdk_exc, fin_exc, ↓evS_try, tryS_rt, tryS_exc, evH, evX, excIs, exLt, wipeX, List.zip_nil_left, List.reverse_nil, List.reverse_cons, List.zip_cons_cons, op1k_some, setB, Sg.look, Sg.lookL, drf, Sg.put, entry, fin_ret, fin_nx, bindT, bindTs, callR, List.map_cons, List.map_nil, List.length_cons, List.length_nil, List.length_map, List.replicate_succ, List.replicate_zero, List.getElem?_cons_zero, List.getElem?_cons_succ, List.cons_append, List.nil_append, List.set_cons_zero, List.set_cons_succ, binP, binI, set_lst, p_len_l, p_len_t, p_len_k, p_len_s, p_int_i, p_int_b, p_tup_l, p_tup_t, p_lst_l, p_lst_t, p_srt_l, p_all_l, p_any_l, p_sum_l, metK, mutK, sameK, isinP, isOf, tyName, fput, putFP, keyOf, keyOf1, kindOf, part, isP, strsOf, intsOf, blsOf, b2n, Option.map_some, Option.bind_some, Option.map_none, Option.bind_none, truthy, reduceIte, if_true, if_false, isCont, Nat.reduceAdd, Nat.reduceSub, Nat.reduceLT, Nat.reduceMul, Nat.reducePow, Int.reduceLE, Int.reduceLT, Int.reduceToNat, Int.reduceAdd, Int.reduceSub, Int.reduceMul, Int.reduceNeg, Int.reducePow, Nat.zero_add, Nat.zero_lt_succ, and_self, and_true, true_and, decide_true, decide_false, Bool.false_and, Bool.and_false, Bool.true_and, Bool.and_true, Bool.not_true, Bool.not_false, Bool.or_false, Bool.or_true, Bool.false_or, Bool.true_or, eq_self, Bool.false_eq_true, String.reduceBEq, String.reduceEq, beq_self_eq_true, List.all_cons, List.all_nil, List.any_cons, List.any_nil, itemsOf, cmulB, cpowB, hc, ext_ok (xs := ((((allSt i).take j).flatMap fun t => [t ++ [48], t ++ [49], t ++ [46]]).map .str)) (ys := [.str (t ++ [48]), .str (t ++ [49]), .str (t ++ [46])]) (by simp [SL] at hcnt ⊢; omega)])
    refine ⟨y4, ?_⟩
    rw [List.length_map, List.take_of_length_le (Nat.le_refl _)] at e
    exact e
  have hr : rgB 0 p = true := rgB_ok (by decide) (by decide) (by omega) (by omega)
  obtain ⟨s', e, c1, x2, x3, x4, h1, rfl⟩ := forS_nx (t := .name 2) (body := x__law_strings_b0) (F := fun _ _ => none) (xs := rangeP 0 p) (s := ⟨[.val (.int p), .own (.lst ((allSt 0).map .str)), .non, .non, .non, .non], mu⟩)
    (fun i s => ∃ c1 x2 x3 x4, (c1 = .own (.lst ((allSt i).map .str)) ∨ c1 = .val (.lst ((allSt i).map .str))) ∧ s = ⟨[.val (.int p), c1, x2, x3, x4, .non], mu⟩) ⟨_, _, _, _, .inl rfl, rfl⟩ (fun i x s hx hs => by
      obtain ⟨c1, x2, x3, x4, h1, rfl⟩ := hs
      have hi : i < p := by
        have := (List.getElem?_eq_some_iff.mp hx).1
        rw [len_rangeP] at this; omega
      obtain ⟨y4, e⟩ := inner i (by omega) (.val x) x4
      refine ⟨_, ⟨[.val (.int p), .val (.lst ((allSt (i + 1)).map .str)), .val x, .val (.lst ((allSt (i + 1)).map .str)), y4, .non], mu⟩, rfl, ?_, _, _, _, _, .inr rfl, rfl⟩
      unfold x__law_strings_b0
      rcases h1 with rfl | rfl
      · simp (decide := true) only [cmp_ei, cmp_ni, cmp_es, cmp_ns, cmp_lt, cmp_le, cmp_gt, cmp_ge, cmp_is, cmp_isn, cmp_in, cmp_nin, ↓evR_comp, ↓evR_dcomp, ↓evS_for, ↓evS_whl, turnS, turnD, evF, fixN, evSs, evS, evR, evA, evL, evI, plc, tst, fz, ↓bd_k, ↓op1_k, bdk_rt, bdk_some, bdk_exc, fin_exc, ↓evS_try, tryS_rt, tryS_exc, evH, evX, excIs, exLt, wipeX, List.zip_nil_left, List.reverse_nil, List.reverse_cons, List.zip_cons_cons, op1k_some, setB, Sg.look, Sg.lookL, drf, Sg.put, entry, fin_ret, fin_nx, bindT, bindTs, callR, List.map_cons, List.map_nil, List.length_cons, List.length_nil, List.length_map, List.replicate_succ, List.replicate_zero, List.getElem?_cons_zero, List.getElem?_cons_succ, List.cons_append, List.nil_append, List.set_cons_zero, List.set_cons_succ, binP, binI, set_lst, p_len_l, p_len_t, p_len_k, p_len_s, p_int_i, p_int_b, p_tup_l, p_tup_t, p_lst_l, p_lst_t, p_srt_l, p_all_l, p_any_l, p_sum_l, metK, mutK, sameK, isinP, isOf, tyName, fput, putFP, keyOf, keyOf1, kindOf, part, isP, strsOf, intsOf, blsOf, b2n, Option.map_some, Option.bind_some, Option.map_none, Option.bind_none, truthy, reduceIte, if_true, if_false, isCont, Nat.reduceAdd, Nat.reduceSub, Nat.reduceLT, Nat.reduceMul, Nat.reducePow, Int.reduceLE, Int.reduceLT, Int.reduceToNat, Int.reduceAdd, Int.reduceSub, Int.reduceMul, Int.reduceNeg, Int.reducePow, Nat.zero_add, Nat.zero_lt_succ, and_self, and_true, true_and, decide_true, decide_false, Bool.false_and, Bool.and_false, Bool.true_and, Bool.and_true, Bool.not_true, Bool.not_false, Bool.or_false, Bool.or_true, Bool.false_or, Bool.true_or, eq_self, Bool.false_eq_true, String.reduceBEq, String.reduceEq, beq_self_eq_true, List.all_cons, List.all_nil, List.any_cons, List.any_nil, itemsOf, cmulB, cpowB, e]
      · simp (decide := true) only [cmp_ei, cmp_ni, cmp_es, cmp_ns, cmp_lt, cmp_le, cmp_gt, cmp_ge, cmp_is, cmp_isn, cmp_in, cmp_nin, ↓evR_comp, ↓evR_dcomp, ↓evS_for, ↓evS_whl, turnS, turnD, evF, fixN, evSs, evS, evR, evA, evL, evI, plc, tst, fz, ↓bd_k, ↓op1_k, bdk_rt, bdk_some, bdk_exc, fin_exc, ↓evS_try, tryS_rt, tryS_exc, evH, evX, excIs, exLt, wipeX, List.zip_nil_left, List.reverse_nil, List.reverse_cons, List.zip_cons_cons, op1k_some, setB, Sg.look, Sg.lookL, drf, Sg.put, entry, fin_ret, fin_nx, bindT, bindTs, callR, List.map_cons, List.map_nil, List.length_cons, List.length_nil, List.length_map, List.replicate_succ, List.replicate_zero, List.getElem?_cons_zero, List.getElem?_cons_succ, List.cons_append, List.nil_append, List.set_cons_zero, List.set_cons_succ, binP, binI, set_lst, p_len_l, p_len_t, p_len_k, p_len_s, p_int_i, p_int_b, p_tup_l, p_tup_t, p_lst_l, p_lst_t, p_srt_l, p_all_l, p_any_l, p_sum_l, metK, mutK, sameK, isinP, isOf, tyName, fput, putFP, keyOf, keyOf1, kindOf, part, isP, strsOf, intsOf, blsOf, b2n, Option.map_some, Option.bind_some, Option.map_none, Option.bind_none, truthy, reduceIte, if_true, if_false, isCont, Nat.reduceAdd, Nat.reduceSub, Nat.reduceLT, Nat.reduceMul, Nat.reducePow, Int.reduceLE, Int.reduceLT, Int.reduceToNat, Int.reduceAdd, Int.reduceSub, Int.reduceMul, Int.reduceNeg, Int.reducePow, Nat.zero_add, Nat.zero_lt_succ, and_self, and_true, true_and, decide_true, decide_false, Bool.false_and, Bool.and_false, Bool.true_and, Bool.and_true, Bool.not_true, Bool.not_false, Bool.or_false, Bool.or_true, Bool.false_or, Bool.true_or, eq_self, Bool.false_eq_true, String.reduceBEq, String.reduceEq, beq_self_eq_true, List.all_cons, List.all_nil, List.any_cons, List.any_nil, itemsOf, cmulB, cpowB, e])
  rw [len_rangeP, show ((p : Int) - 0).toNat = p from by omega] at h1
  unfold x__law_strings
  have a0 : (allSt 0).map PV.str = [.str []] := rfl
  rw [a0] at e
  rcases h1 with rfl | rfl
  · exact ⟨true, by simp (decide := true) only [cmp_ei, cmp_ni, cmp_es, cmp_ns, cmp_lt, cmp_le, cmp_gt, cmp_ge, cmp_is, cmp_isn, cmp_in, cmp_nin, ↓evR_comp, ↓evR_dcomp, ↓evS_for, ↓evS_whl, turnS, turnD, evF, fixN, evSs, evS, evR, evA, evL, evI, plc, tst, fz, ↓bd_k, ↓op1_k, bdk_rt, bdk_some, bdk_exc, fin_exc, ↓evS_try, tryS_rt, tryS_exc, evH, evX, excIs, exLt, wipeX, List.zip_nil_left, List.reverse_nil, List.reverse_cons, List.zip_cons_cons, op1k_some, setB, Sg.look, Sg.lookL, drf, Sg.put, entry, fin_ret, fin_nx, bindT, bindTs, callR, List.map_cons, List.map_nil, List.length_cons, List.length_nil, List.length_map, List.replicate_succ, List.replicate_zero, List.getElem?_cons_zero, List.getElem?_cons_succ, List.cons_append, List.nil_append, List.set_cons_zero, List.set_cons_succ, binP, binI, set_lst, p_len_l, p_len_t, p_len_k, p_len_s, p_int_i, p_int_b, p_tup_l, p_tup_t, p_lst_l, p_lst_t, p_srt_l, p_all_l, p_any_l, p_sum_l, metK, mutK, sameK, isinP, isOf, tyName, fput, putFP, keyOf, keyOf1, kindOf, part, isP, strsOf, intsOf, blsOf, b2n, Option.map_some, Option.bind_some, Option.map_none, Option.bind_none, truthy, reduceIte, if_true, if_false, isCont, Nat.reduceAdd, Nat.reduceSub, Nat.reduceLT, Nat.reduceMul, Nat.reducePow, Int.reduceLE, Int.reduceLT, Int.reduceToNat, Int.reduceAdd, Int.reduceSub, Int.reduceMul, Int.reduceNeg, Int.reducePow, Nat.zero_add, Nat.zero_lt_succ, and_self, and_true, true_and, decide_true, decide_false, Bool.false_and, Bool.and_false, Bool.true_and, Bool.and_true, Bool.not_true, Bool.not_false, Bool.or_false, Bool.or_true, Bool.false_or, Bool.true_or, eq_self, Bool.false_eq_true, String.reduceBEq, String.reduceEq, beq_self_eq_true, List.all_cons, List.all_nil, List.any_cons, List.any_nil, itemsOf, cmulB, cpowB, hr, e]⟩
  · exact ⟨false, by simp (decide := true) only [cmp_ei, cmp_ni, cmp_es, cmp_ns, cmp_lt, cmp_le, cmp_gt, cmp_ge, cmp_is, cmp_isn, cmp_in, cmp_nin, ↓evR_comp, ↓evR_dcomp, ↓evS_for, ↓evS_whl, turnS, turnD, evF, fixN, evSs, evS, evR, evA, evL, evI, plc, tst, fz, ↓bd_k, ↓op1_k, bdk_rt, bdk_some, bdk_exc, fin_exc, ↓evS_try, tryS_rt, tryS_exc, evH, evX, excIs, exLt, wipeX, List.zip_nil_left, List.reverse_nil, List.reverse_cons, List.zip_cons_cons, op1k_some, setB, Sg.look, Sg.lookL, drf, Sg.put, entry, fin_ret, fin_nx, bindT, bindTs, callR, List.map_cons, List.map_nil, List.length_cons, List.length_nil, List.length_map, List.replicate_succ, List.replicate_zero, List.getElem?_cons_zero, List.getElem?_cons_succ, List.cons_append, List.nil_append, List.set_cons_zero, List.set_cons_succ, binP, binI, set_lst, p_len_l, p_len_t, p_len_k, p_len_s, p_int_i, p_int_b, p_tup_l, p_tup_t, p_lst_l, p_lst_t, p_srt_l, p_all_l, p_any_l, p_sum_l, metK, mutK, sameK, isinP, isOf, tyName, fput, putFP, keyOf, keyOf1, kindOf, part, isP, strsOf, intsOf, blsOf, b2n, Option.map_some, Option.bind_some, Option.map_none, Option.bind_none, truthy, reduceIte, if_true, if_false, isCont, Nat.reduceAdd, Nat.reduceSub, Nat.reduceLT, Nat.reduceMul, Nat.reducePow, Int.reduceLE, Int.reduceLT, Int.reduceToNat, Int.reduceAdd, Int.reduceSub, Int.reduceMul, Int.reduceNeg, Int.reducePow, Nat.zero_add, Nat.zero_lt_succ, and_self, and_true, true_and, decide_true, decide_false, Bool.false_and, Bool.and_false, Bool.true_and, Bool.and_true, Bool.not_true, Bool.not_false, Bool.or_false, Bool.or_true, Bool.false_or, Bool.true_or, eq_self, Bool.false_eq_true, String.reduceBEq, String.reduceEq, beq_self_eq_true, List.all_cons, List.all_nil, List.any_cons, List.any_nil, itemsOf, cmulB, cpowB, hr, e]⟩
end Lk

namespace Lk
theorem fits_range {r st : List Nat} (h : st.length = r.length) : ((List.range r.length).all fun a => st.getD a 0 == 46 || st.getD a 0 == r.getD a 0) = fitsB r st := by
  rw [Bool.eq_iff_iff, List.all_eq_true, fits_iff h]
  simp only [List.mem_range, Bool.or_eq_true, beq_iff_eq, h]
theorem fil_take {α : Type} {P : α → Bool} {l : List α} {i : Nat} {x : α} (h : l[i]? = some x) : (l.take (i + 1)).filter P = (l.take i).filter P ++ if P x = true then [x] else [] := by
  rw [List.take_add_one, h, List.filter_append]
  congr 1
  show [x].filter P = _
  rw [List.filter_cons]
  split <;> simp_all
theorem law_fit_ok {p : Nat} {rs : List (List Nat)} (h : RowsOk p rs) (st : List Nat) (hl : st.length = p) (mu : List PV) : evF x__law_fit [strL rs, .str st] mu = some (.ok (strL (rowsAt rs st), true), mu) := by
  obtain ⟨g, e⟩ := for_st (t := .name 3) (body := x__law_fit_b0) (F := fun _ _ => none) (emb := PV.str) (l := rs) (fun (v : List (List Nat)) (g : Cell) => ⟨[.val (strL rs), .val (.str st), .own (strL v), g, .non], mu⟩) (fun i => rowsAt (rs.take i) st) .non (fun i r g hx => by
    have hr := List.mem_of_getElem? hx
    have lr := h.len r hr
    have hsl := h.lS r hr
    have hrg : rgB 0 r.length = true := rgB_ok (by decide) (by decide) (by omega) (by simp [SL] at hsl; omega)
    have hsz : ((rowsAt (rs.take i) st).map PV.str).length < SL := by
      rw [List.length_map]
      have h1 : (rowsAt (rs.take i) st).length ≤ (rs.take i).length := List.length_filter_le _ _
      rw [List.length_take] at h1
      have := h.most
      simp [SL]; omega
    refine ⟨_, .val (.str r), rfl, ?_⟩
    simp only [strL, show rowsAt (rs.take (i + 1)) st = _ from fil_take hx, List.map_append]
    rw [x__law_fit_b0]
    simp (decide := true) (dsimp := false) only [cmp_ei, cmp_ni, cmp_es, cmp_ns, cmp_lt, cmp_le, cmp_gt, cmp_ge, cmp_is, cmp_isn, cmp_in, cmp_nin, ↓evR_comp, ↓evR_dcomp, ↓evR_tand, ↓evR_tor, ↓evR_and, ↓evR_or, ↓evR_ite, ↓evR_cmp2, ↓evS_ifs, iteB_t, iteB_f, iteK_t, iteK_f, iB_and, iB_and2, iB_or, iB_or2, iB_int, iB_str, iB_same, str1_eq, natc_eq, blsOf_f, strsOf_f, intsOf_f, blsOf_map, strsOf_map, intsOf_map, rangeP_n, ov_t, ov_f, wipeE, ix_tup0, ix_tup1, ix_tup2, ix_tup3, ix_lst0, ix_lst1, ix_lst2, ix_lst3, in01, List.all_map, List.any_map, ↓evS_for, ↓evS_whl, turnS_b, turnD_b, evF, fixN, evSs, evS, evR, evA, evL, evI, plc, tst, fz, ↓bd_k, ↓op1_k, bdk_rt, bdk_some, bdk_exc, fin_exc, ↓evS_try, tryS_rt, tryS_exc, evH, evX, excIs, exLt, wipeX, List.zip_nil_left, List.reverse_nil, List.reverse_cons, List.zip_cons_cons, op1k_some, setB, Sg.look, Sg.lookL, drf, Sg.put, entry, fin_ret, fin_nx, bindT, bindTs, callR, List.map_cons, List.map_nil, List.length_cons, List.length_nil, List.length_map, List.replicate_succ, List.replicate_zero, List.getElem?_cons_zero, List.getElem?_cons_succ, List.cons_append, List.nil_append, List.set_cons_zero, List.set_cons_succ, binP, binI, set_lst, p_len_l, p_len_t, p_len_k, p_len_s, p_int_i, p_int_b, p_tup_l, p_tup_t, p_lst_l, p_lst_t, p_srt_l, p_all_f, p_any_f, p_sum_l, metK, mutK, sameK, isinP, isOf, tyName, fput, putFP, keyOf, keyOf1, kindOf, part, isP, strsOf, intsOf, blsOf, b2n, Option.map_some, Option.bind_some, Option.map_none, Option.bind_none, truthy, reduceIte, if_true, if_false, isCont, Nat.reduceAdd, Nat.reduceSub, Nat.reduceLT, Nat.reduceMul, Nat.reducePow, Int.reduceLE, Int.reduceLT, Int.reduceToNat, Int.reduceAdd, Int.reduceSub, Int.reduceMul, Int.reduceNeg, Int.reducePow, Nat.zero_add, Nat.zero_lt_succ, and_self, and_true, true_and, decide_true, decide_false, Bool.false_and, Bool.and_false, Bool.true_and, Bool.and_true, Bool.not_true, Bool.not_false, Bool.or_false, Bool.or_true, Bool.false_or, Bool.true_or, eq_self, Bool.false_eq_true, String.reduceBEq, String.reduceEq, beq_self_eq_true, List.all_cons, List.all_nil, List.any_cons, List.any_nil, itemsOf, cmulB, cpowB, hsl, hrg]
    rw [cm_map (out := ?o) (env' := ?e) ?h rfl (by rw [List.length_range]; exact hsl)]
    case h =>
      intro a ha
      rw [List.mem_range] at ha
      constructor
      · rw [x__law_fit_e0]
        simp (decide := true) (dsimp := false) only [cmp_ei, cmp_ni, cmp_es, cmp_ns, cmp_lt, cmp_le, cmp_gt, cmp_ge, cmp_is, cmp_isn, cmp_in, cmp_nin, ↓evR_comp, ↓evR_dcomp, ↓evR_tand, ↓evR_tor, ↓evR_and, ↓evR_or, ↓evR_ite, ↓evR_cmp2, ↓evS_ifs, iteB_t, iteB_f, iteK_t, iteK_f, iB_and, iB_and2, iB_or, iB_or2, iB_int, iB_str, iB_same, str1_eq, natc_eq, blsOf_f, strsOf_f, intsOf_f, blsOf_map, strsOf_map, intsOf_map, rangeP_n, ov_t, ov_f, wipeE, ix_tup0, ix_tup1, ix_tup2, ix_tup3, ix_lst0, ix_lst1, ix_lst2, ix_lst3, in01, List.all_map, List.any_map, ↓evS_for, ↓evS_whl, turnS_b, turnD_b, evF, fixN, evSs, evS, evR, evA, evL, evI, plc, tst, fz, ↓bd_k, ↓op1_k, bdk_rt, bdk_some, bdk_exc, fin_exc, ↓evS_try, tryS_rt, tryS_exc, evH, evX, excIs, exLt, wipeX, List.zip_nil_left, List.reverse_nil, List.reverse_cons, List.zip_cons_cons, op1k_some, setB, Sg.look, Sg.lookL, drf, Sg.put, entry, fin_ret, fin_nx, bindT, bindTs, callR, List.map_cons, List.map_nil, List.length_cons, List.length_nil, List.length_map, List.replicate_succ, List.replicate_zero, List.getElem?_cons_zero, List.getElem?_cons_succ, List.cons_append, List.nil_append, List.set_cons_zero, List.set_cons_succ, binP, binI, set_lst, p_len_l, p_len_t, p_len_k, p_len_s, p_int_i, p_int_b, p_tup_l, p_tup_t, p_lst_l, p_lst_t, p_srt_l, p_all_f, p_any_f, p_sum_l, metK, mutK, sameK, isinP, isOf, tyName, fput, putFP, keyOf, keyOf1, kindOf, part, isP, strsOf, intsOf, blsOf, b2n, Option.map_some, Option.bind_some, Option.map_none, Option.bind_none, truthy, reduceIte, if_true, if_false, isCont, Nat.reduceAdd, Nat.reduceSub, Nat.reduceLT, Nat.reduceMul, Nat.reducePow, Int.reduceLE, Int.reduceLT, Int.reduceToNat, Int.reduceAdd, Int.reduceSub, Int.reduceMul, Int.reduceNeg, Int.reducePow, Nat.zero_add, Nat.zero_lt_succ, and_self, and_true, true_and, decide_true, decide_false, Bool.false_and, Bool.and_false, Bool.true_and, Bool.and_true, Bool.not_true, Bool.not_false, Bool.or_false, Bool.or_true, Bool.false_or, Bool.true_or, eq_self, Bool.false_eq_true, String.reduceBEq, String.reduceEq, beq_self_eq_true, List.all_cons, List.all_nil, List.any_cons, List.any_nil, itemsOf, cmulB, cpowB, idx_chr (s := st) (i := a) (by omega) (by omega), idx_chr ha hsl, tup_two, show 2 ≤ SL by decide]
        rfl
      · rfl
    have fr := fits_range (r := r) (st := st) (by omega)
    cases hb : fitsB r st with
    | true => simp (decide := true) (dsimp := false) only [cmp_ei, cmp_ni, cmp_es, cmp_ns, cmp_lt, cmp_le, cmp_gt, cmp_ge, cmp_is, cmp_isn, cmp_in, cmp_nin, ↓evR_comp, ↓evR_dcomp, ↓evR_tand, ↓evR_tor, ↓evR_and, ↓evR_or, ↓evR_ite, ↓evR_cmp2, ↓evS_ifs, iteB_t, iteB_f, iteK_t, iteK_f, iB_and, iB_and2, iB_or, iB_or2, iB_int, iB_str, iB_same, str1_eq, natc_eq, blsOf_f, strsOf_f, intsOf_f, blsOf_map, strsOf_map, intsOf_map, rangeP_n, ov_t, ov_f, wipeE, ix_tup0, ix_tup1, ix_tup2, ix_tup3, ix_lst0, ix_lst1, ix_lst2, ix_lst3, in01, List.all_map, List.any_map, ↓evS_for, ↓evS_whl, turnS_b, turnD_b, evF, fixN, evSs, evS, evR, evA, evL, evI, plc, tst, fz, ↓bd_k, ↓op1_k, bdk_rt, bdk_some, bdk_exc, fin_exc, ↓evS_try, tryS_rt, tryS_exc, evH, evX, excIs, exLt, wipeX, List.zip_nil_left, List.reverse_nil, List.reverse_cons, List.zip_cons_cons, op1k_some, setB, Sg.look, Sg.lookL, drf, Sg.put, entry, fin_ret, fin_nx, bindT, bindTs, callR, List.map_cons, List.map_nil, List.length_cons, List.length_nil, List.length_map, List.replicate_succ, List.replicate_zero, List.getElem?_cons_zero, List.getElem?_cons_succ, List.cons_append, List.nil_append, List.set_cons_zero, List.set_cons_succ, binP, binI, set_lst, p_len_l, p_len_t, p_len_k, p_len_s, p_int_i, p_int_b, p_tup_l, p_tup_t, p_lst_l, p_lst_t, p_srt_l, p_all_f, p_any_f, p_sum_l, metK, mutK, sameK, isinP, isOf, tyName, fput, putFP, keyOf, keyOf1, kindOf, part, isP, strsOf, intsOf, blsOf, b2n, Option.map_some, Option.bind_some, Option.map_none, Option.bind_none, truthy, reduceIte, if_true, if_false, isCont, Nat.reduceAdd, Nat.reduceSub, Nat.reduceLT, Nat.reduceMul, Nat.reducePow, Int.reduceLE, Int.reduceLT, Int.reduceToNat, Int.reduceAdd, Int.reduceSub, Int.reduceMul, Int.reduceNeg, Int.reducePow, Nat.zero_add, Nat.zero_lt_succ, and_self, and_true, true_and, decide_true, decide_false, Bool.false_and, Bool.and_false, Bool.true_and, Bool.and_true, Bool.not_true, Bool.not_false, Bool.or_false, Bool.or_true, Bool.false_or, Bool.true_or, eq_self, Bool.false_eq_true, String.reduceBEq, String.reduceEq, beq_self_eq_true, List.all_cons, List.all_nil, List.any_cons, List.any_nil, itemsOf, cmulB, cpowB, fr, hb, app_ok hsz]; rfl
    | false => simp (decide := true) (dsimp := false) only [cmp_ei, cmp_ni, cmp_es, cmp_ns, cmp_lt, cmp_le, cmp_gt, cmp_ge, cmp_is, cmp_isn, cmp_in, cmp_nin, ↓evR_comp, ↓evR_dcomp, ↓evR_tand, ↓evR_tor, ↓evR_and, ↓evR_or, ↓evR_ite, ↓evR_cmp2, ↓evS_ifs, iteB_t, iteB_f, iteK_t, iteK_f, iB_and, iB_and2, iB_or, iB_or2, iB_int, iB_str, iB_same, str1_eq, natc_eq, blsOf_f, strsOf_f, intsOf_f, blsOf_map, strsOf_map, intsOf_map, rangeP_n, ov_t, ov_f, wipeE, ix_tup0, ix_tup1, ix_tup2, ix_tup3, ix_lst0, ix_lst1, ix_lst2, ix_lst3, in01, List.all_map, List.any_map, ↓evS_for, ↓evS_whl, turnS_b, turnD_b, evF, fixN, evSs, evS, evR, evA, evL, evI, plc, tst, fz, ↓bd_k, ↓op1_k, bdk_rt, bdk_some, bdk_exc, fin_exc, ↓evS_try, tryS_rt, tryS_exc, evH, evX, excIs, exLt, wipeX, List.zip_nil_left, List.reverse_nil, List.reverse_cons, List.zip_cons_cons, op1k_some, setB, Sg.look, Sg.lookL, drf, Sg.put, entry, fin_ret, fin_nx, bindT, bindTs, callR, List.map_cons, List.map_nil, List.length_cons, List.length_nil, List.length_map, List.replicate_succ, List.replicate_zero, List.getElem?_cons_zero, List.getElem?_cons_succ, List.cons_append, List.nil_append, List.set_cons_zero, List.set_cons_succ, binP, binI, set_lst, p_len_l, p_len_t, p_len_k, p_len_s, p_int_i, p_int_b, p_tup_l, p_tup_t, p_lst_l, p_lst_t, p_srt_l, p_all_f, p_any_f, p_sum_l, metK, mutK, sameK, isinP, isOf, tyName, fput, putFP, keyOf, keyOf1, kindOf, part, isP, strsOf, intsOf, blsOf, b2n, Option.map_some, Option.bind_some, Option.map_none, Option.bind_none, truthy, reduceIte, if_true, if_false, isCont, Nat.reduceAdd, Nat.reduceSub, Nat.reduceLT, Nat.reduceMul, Nat.reducePow, Int.reduceLE, Int.reduceLT, Int.reduceToNat, Int.reduceAdd, Int.reduceSub, Int.reduceMul, Int.reduceNeg, Int.reducePow, Nat.zero_add, Nat.zero_lt_succ, and_self, and_true, true_and, decide_true, decide_false, Bool.false_and, Bool.and_false, Bool.true_and, Bool.and_true, Bool.not_true, Bool.not_false, Bool.or_false, Bool.or_true, Bool.false_or, Bool.true_or, eq_self, Bool.false_eq_true, String.reduceBEq, String.reduceEq, beq_self_eq_true, List.all_cons, List.all_nil, List.any_cons, List.any_nil, itemsOf, cmulB, cpowB, fr, hb, List.append_nil]; rfl)
  rw [List.take_of_length_le (Nat.le_refl _)] at e
  simp only [List.take_zero, show rowsAt [] st = [] from rfl, List.map_nil, strL] at e
  rw [x__law_fit, ev_fn (by rfl)]
  simp (decide := true) (dsimp := false) only [cmp_ei, cmp_ni, cmp_es, cmp_ns, cmp_lt, cmp_le, cmp_gt, cmp_ge, cmp_is, cmp_isn, cmp_in, cmp_nin, ↓evR_comp, ↓evR_dcomp, ↓evR_tand, ↓evR_tor, ↓evR_and, ↓evR_or, ↓evR_ite, ↓evR_cmp2, ↓evS_ifs, iteB_t, iteB_f, iteK_t, iteK_f, iB_and, iB_and2, iB_or, iB_or2, iB_int, iB_str, iB_same, str1_eq, natc_eq, blsOf_f, strsOf_f, intsOf_f, blsOf_map, strsOf_map, intsOf_map, rangeP_n, ov_t, ov_f, wipeE, ix_tup0, ix_tup1, ix_tup2, ix_tup3, ix_lst0, ix_lst1, ix_lst2, ix_lst3, in01, List.all_map, List.any_map, ↓evS_for, ↓evS_whl, turnS_b, turnD_b, evF, fixN, evSs, evS, evR, evA, evL, evI, plc, tst, fz, ↓bd_k, ↓op1_k, bdk_rt, bdk_some, bdk_exc, fin_exc, ↓evS_try, tryS_rt, tryS_exc, evH, evX, excIs, exLt, wipeX, List.zip_nil_left, List.reverse_nil, List.reverse_cons, List.zip_cons_cons, op1k_some, setB, Sg.look, Sg.lookL, drf, Sg.put, entry, fin_ret, fin_nx, bindT, bindTs, callR, List.map_cons, List.map_nil, List.length_cons, List.length_nil, List.length_map, List.replicate_succ, List.replicate_zero, List.getElem?_cons_zero, List.getElem?_cons_succ, List.cons_append, List.nil_append, List.set_cons_zero, List.set_cons_succ, binP, binI, set_lst, p_len_l, p_len_t, p_len_k, p_len_s, p_int_i, p_int_b, p_tup_l, p_tup_t, p_lst_l, p_lst_t, p_srt_l, p_all_f, p_any_f, p_sum_l, metK, mutK, sameK, isinP, isOf, tyName, fput, putFP, keyOf, keyOf1, kindOf, part, isP, strsOf, intsOf, blsOf, b2n, Option.map_some, Option.bind_some, Option.map_none, Option.bind_none, truthy, reduceIte, if_true, if_false, isCont, Nat.reduceAdd, Nat.reduceSub, Nat.reduceLT, Nat.reduceMul, Nat.reducePow, Int.reduceLE, Int.reduceLT, Int.reduceToNat, Int.reduceAdd, Int.reduceSub, Int.reduceMul, Int.reduceNeg, Int.reducePow, Nat.zero_add, Nat.zero_lt_succ, and_self, and_true, true_and, decide_true, decide_false, Bool.false_and, Bool.and_false, Bool.true_and, Bool.and_true, Bool.not_true, Bool.not_false, Bool.or_false, Bool.or_true, Bool.false_or, Bool.true_or, eq_self, Bool.false_eq_true, String.reduceBEq, String.reduceEq, beq_self_eq_true, List.all_cons, List.all_nil, List.any_cons, List.any_nil, itemsOf, cmulB, cpowB, e]
end Lk

namespace Lk
/-- what is due of a telling -/
def ansL (p : Nat) (rs : List (List Nat)) (st : List Nat) (a : Int) (c : Nat) : List PV :=
  if leftB p st a = true then (if isSt p rs (st.set a.toNat c) = true then [.str [116, 111, 108, 100], .str (st.set a.toNat c)] else [.str [114, 111, 119], .int 0]) else [.str [112, 108, 97, 99, 101], .int a]
theorem answer_ok {p k : Nat} {rs : List (List Nat)} {kn : PV} {mu : List PV} (L : LC p rs kn mu k) (st : List Nat) (h : isSt p rs st = true) (a : Int) {c : Nat} (hc : sg01 c = true) : evF x__law_answer [.ref k, .str st, .int a, .str [c]] mu = some (.ok (PV.tup (ansL p rs st a c), false), mu) := by
  unfold ansL
  cases hn : leftB p st a with
  | false =>
    rw [x__law_answer, ev_fn (by rfl)]
    rw [x__law_answer_b0]
    simp (decide := true) (dsimp := false) only [cmp_ei, cmp_ni, cmp_es, cmp_ns, cmp_lt, cmp_le, cmp_gt, cmp_ge, cmp_is, cmp_isn, cmp_in, cmp_nin, ↓evR_comp, ↓evR_dcomp, ↓evR_tand, ↓evR_tor, ↓evR_and, ↓evR_or, ↓evR_ite, ↓evR_cmp2, ↓evS_ifs, iteB_t, iteB_f, iteK_t, iteK_f, iB_and, iB_and2, iB_or, iB_or2, iB_int, iB_str, iB_same, str1_eq, natc_eq, blsOf_f, strsOf_f, intsOf_f, blsOf_map, strsOf_map, intsOf_map, rangeP_n, ov_t, ov_f, wipeE, ix_tup0, ix_tup1, ix_tup2, ix_tup3, ix_lst0, ix_lst1, ix_lst2, ix_lst3, in01, List.all_map, List.any_map, ↓evS_for, ↓evS_whl, turnS_b, turnD_b, evF, fixN, evSs, evS, evR, evA, evL, evI, plc, tst, fz, ↓bd_k, ↓op1_k, bdk_rt, bdk_some, bdk_exc, fin_exc, ↓evS_try, tryS_rt, tryS_exc, evH, evX, excIs, exLt, wipeX, List.zip_nil_left, List.reverse_nil, List.reverse_cons, List.zip_cons_cons, op1k_some, setB, Sg.look, Sg.lookL, drf, Sg.put, entry, fin_ret, fin_nx, bindT, bindTs, callR, List.map_cons, List.map_nil, List.length_cons, List.length_nil, List.length_map, List.replicate_succ, List.replicate_zero, List.getElem?_cons_zero, List.getElem?_cons_succ, List.cons_append, List.nil_append, List.set_cons_zero, List.set_cons_succ, binP, binI, set_lst, p_len_l, p_len_t, p_len_k, p_len_s, p_int_i, p_int_b, p_tup_l, p_tup_t, p_lst_l, p_lst_t, p_srt_l, p_all_f, p_any_f, p_sum_l, metK, mutK, sameK, isinP, isOf, tyName, fput, putFP, keyOf, keyOf1, kindOf, part, isP, strsOf, intsOf, blsOf, b2n, Option.map_some, Option.bind_some, Option.map_none, Option.bind_none, truthy, reduceIte, if_true, if_false, isCont, Nat.reduceAdd, Nat.reduceSub, Nat.reduceLT, Nat.reduceMul, Nat.reducePow, Int.reduceLE, Int.reduceLT, Int.reduceToNat, Int.reduceAdd, Int.reduceSub, Int.reduceMul, Int.reduceNeg, Int.reducePow, Nat.zero_add, Nat.zero_lt_succ, and_self, and_true, true_and, decide_true, decide_false, Bool.false_and, Bool.and_false, Bool.true_and, Bool.and_true, Bool.not_true, Bool.not_false, Bool.or_false, Bool.or_true, Bool.false_or, Bool.true_or, eq_self, Bool.false_eq_true, String.reduceBEq, String.reduceEq, beq_self_eq_true, List.all_cons, List.all_nil, List.any_cons, List.any_nil, itemsOf, cmulB, cpowB, told_place L st h a (.str [c]) hn, flatP, List.find?_cons]
  | true =>
    obtain ⟨n, h1, rfl, h2⟩ := leftB_iff.mp hn
    rw [Int.toNat_natCast]
    cases hr : isSt p rs (st.set n c) with
    | false =>
      rw [x__law_answer, ev_fn (by rfl)]
      rw [x__law_answer_b0]
      simp (decide := true) (dsimp := false) only [cmp_ei, cmp_ni, cmp_es, cmp_ns, cmp_lt, cmp_le, cmp_gt, cmp_ge, cmp_is, cmp_isn, cmp_in, cmp_nin, ↓evR_comp, ↓evR_dcomp, ↓evR_tand, ↓evR_tor, ↓evR_and, ↓evR_or, ↓evR_ite, ↓evR_cmp2, ↓evS_ifs, iteB_t, iteB_f, iteK_t, iteK_f, iB_and, iB_and2, iB_or, iB_or2, iB_int, iB_str, iB_same, str1_eq, natc_eq, blsOf_f, strsOf_f, intsOf_f, blsOf_map, strsOf_map, intsOf_map, rangeP_n, ov_t, ov_f, wipeE, ix_tup0, ix_tup1, ix_tup2, ix_tup3, ix_lst0, ix_lst1, ix_lst2, ix_lst3, in01, List.all_map, List.any_map, ↓evS_for, ↓evS_whl, turnS_b, turnD_b, evF, fixN, evSs, evS, evR, evA, evL, evI, plc, tst, fz, ↓bd_k, ↓op1_k, bdk_rt, bdk_some, bdk_exc, fin_exc, ↓evS_try, tryS_rt, tryS_exc, evH, evX, excIs, exLt, wipeX, List.zip_nil_left, List.reverse_nil, List.reverse_cons, List.zip_cons_cons, op1k_some, setB, Sg.look, Sg.lookL, drf, Sg.put, entry, fin_ret, fin_nx, bindT, bindTs, callR, List.map_cons, List.map_nil, List.length_cons, List.length_nil, List.length_map, List.replicate_succ, List.replicate_zero, List.getElem?_cons_zero, List.getElem?_cons_succ, List.cons_append, List.nil_append, List.set_cons_zero, List.set_cons_succ, binP, binI, set_lst, p_len_l, p_len_t, p_len_k, p_len_s, p_int_i, p_int_b, p_tup_l, p_tup_t, p_lst_l, p_lst_t, p_srt_l, p_all_f, p_any_f, p_sum_l, metK, mutK, sameK, isinP, isOf, tyName, fput, putFP, keyOf, keyOf1, kindOf, part, isP, strsOf, intsOf, blsOf, b2n, Option.map_some, Option.bind_some, Option.map_none, Option.bind_none, truthy, reduceIte, if_true, if_false, isCont, Nat.reduceAdd, Nat.reduceSub, Nat.reduceLT, Nat.reduceMul, Nat.reducePow, Int.reduceLE, Int.reduceLT, Int.reduceToNat, Int.reduceAdd, Int.reduceSub, Int.reduceMul, Int.reduceNeg, Int.reducePow, Nat.zero_add, Nat.zero_lt_succ, and_self, and_true, true_and, decide_true, decide_false, Bool.false_and, Bool.and_false, Bool.true_and, Bool.and_true, Bool.not_true, Bool.not_false, Bool.or_false, Bool.or_true, Bool.false_or, Bool.true_or, eq_self, Bool.false_eq_true, String.reduceBEq, String.reduceEq, beq_self_eq_true, List.all_cons, List.all_nil, List.any_cons, List.any_nil, itemsOf, cmulB, cpowB, told_row L st h hn hc hr, flatP]
    | true =>
      rw [x__law_answer, ev_fn (by rfl)]
      rw [x__law_answer_b0]
      simp (decide := true) (dsimp := false) only [cmp_ei, cmp_ni, cmp_es, cmp_ns, cmp_lt, cmp_le, cmp_gt, cmp_ge, cmp_is, cmp_isn, cmp_in, cmp_nin, ↓evR_comp, ↓evR_dcomp, ↓evR_tand, ↓evR_tor, ↓evR_and, ↓evR_or, ↓evR_ite, ↓evR_cmp2, ↓evS_ifs, iteB_t, iteB_f, iteK_t, iteK_f, iB_and, iB_and2, iB_or, iB_or2, iB_int, iB_str, iB_same, str1_eq, natc_eq, blsOf_f, strsOf_f, intsOf_f, blsOf_map, strsOf_map, intsOf_map, rangeP_n, ov_t, ov_f, wipeE, ix_tup0, ix_tup1, ix_tup2, ix_tup3, ix_lst0, ix_lst1, ix_lst2, ix_lst3, in01, List.all_map, List.any_map, ↓evS_for, ↓evS_whl, turnS_b, turnD_b, evF, fixN, evSs, evS, evR, evA, evL, evI, plc, tst, fz, ↓bd_k, ↓op1_k, bdk_rt, bdk_some, bdk_exc, fin_exc, ↓evS_try, tryS_rt, tryS_exc, evH, evX, excIs, exLt, wipeX, List.zip_nil_left, List.reverse_nil, List.reverse_cons, List.zip_cons_cons, op1k_some, setB, Sg.look, Sg.lookL, drf, Sg.put, entry, fin_ret, fin_nx, bindT, bindTs, callR, List.map_cons, List.map_nil, List.length_cons, List.length_nil, List.length_map, List.replicate_succ, List.replicate_zero, List.getElem?_cons_zero, List.getElem?_cons_succ, List.cons_append, List.nil_append, List.set_cons_zero, List.set_cons_succ, binP, binI, set_lst, p_len_l, p_len_t, p_len_k, p_len_s, p_int_i, p_int_b, p_tup_l, p_tup_t, p_lst_l, p_lst_t, p_srt_l, p_all_f, p_any_f, p_sum_l, metK, mutK, sameK, isinP, isOf, tyName, fput, putFP, keyOf, keyOf1, kindOf, part, isP, strsOf, intsOf, blsOf, b2n, Option.map_some, Option.bind_some, Option.map_none, Option.bind_none, truthy, reduceIte, if_true, if_false, isCont, Nat.reduceAdd, Nat.reduceSub, Nat.reduceLT, Nat.reduceMul, Nat.reducePow, Int.reduceLE, Int.reduceLT, Int.reduceToNat, Int.reduceAdd, Int.reduceSub, Int.reduceMul, Int.reduceNeg, Int.reducePow, Nat.zero_add, Nat.zero_lt_succ, and_self, and_true, true_and, decide_true, decide_false, Bool.false_and, Bool.and_false, Bool.true_and, Bool.and_true, Bool.not_true, Bool.not_false, Bool.or_false, Bool.or_true, Bool.false_or, Bool.true_or, eq_self, Bool.false_eq_true, String.reduceBEq, String.reduceEq, beq_self_eq_true, List.all_cons, List.all_nil, List.any_cons, List.any_nil, itemsOf, cmulB, cpowB, told_ok L st h hn hc hr, show 2 ≤ SL by decide]
theorem due_ok {p k : Nat} {rs : List (List Nat)} {kn : PV} {mu : List PV} (L : LC p rs kn mu k) (st : List Nat) (h : isSt p rs st = true) (a : Int) {c : Nat} (hc : sg01 c = true) : evF x__law_due [strL rs, .str st, .int a, .str [c]] mu = some (.ok (PV.tup (ansL p rs st a c), false), mu) := by
  have hl := isSt_len h
  have hp := L.ro.pS
  have SL2 : 2 ≤ SL := by decide
  unfold ansL
  by_cases h0 : a < 0
  · have hn : leftB p st a = false := by
      rw [Bool.eq_false_iff]; intro q
      obtain ⟨n, _, e, _⟩ := leftB_iff.mp q
      omega
    rw [hn]
    rw [x__law_due, ev_fn (by rfl)]
    simp (decide := true) (dsimp := false) only [cmp_ei, cmp_ni, cmp_es, cmp_ns, cmp_lt, cmp_le, cmp_gt, cmp_ge, cmp_is, cmp_isn, cmp_in, cmp_nin, ↓evR_comp, ↓evR_dcomp, ↓evR_tand, ↓evR_tor, ↓evR_and, ↓evR_or, ↓evR_ite, ↓evR_cmp2, ↓evS_ifs, iteB_t, iteB_f, iteK_t, iteK_f, iB_and, iB_and2, iB_or, iB_or2, iB_int, iB_str, iB_same, str1_eq, natc_eq, blsOf_f, strsOf_f, intsOf_f, blsOf_map, strsOf_map, intsOf_map, rangeP_n, ov_t, ov_f, wipeE, ix_tup0, ix_tup1, ix_tup2, ix_tup3, ix_lst0, ix_lst1, ix_lst2, ix_lst3, in01, List.all_map, List.any_map, ↓evS_for, ↓evS_whl, turnS_b, turnD_b, evF, fixN, evSs, evS, evR, evA, evL, evI, plc, tst, fz, ↓bd_k, ↓op1_k, bdk_rt, bdk_some, bdk_exc, fin_exc, ↓evS_try, tryS_rt, tryS_exc, evH, evX, excIs, exLt, wipeX, List.zip_nil_left, List.reverse_nil, List.reverse_cons, List.zip_cons_cons, op1k_some, setB, Sg.look, Sg.lookL, drf, Sg.put, entry, fin_ret, fin_nx, bindT, bindTs, callR, List.map_cons, List.map_nil, List.length_cons, List.length_nil, List.length_map, List.replicate_succ, List.replicate_zero, List.getElem?_cons_zero, List.getElem?_cons_succ, List.cons_append, List.nil_append, List.set_cons_zero, List.set_cons_succ, binP, binI, set_lst, p_len_l, p_len_t, p_len_k, p_len_s, p_int_i, p_int_b, p_tup_l, p_tup_t, p_lst_l, p_lst_t, p_srt_l, p_all_f, p_any_f, p_sum_l, metK, mutK, sameK, isinP, isOf, tyName, fput, putFP, keyOf, keyOf1, kindOf, part, isP, strsOf, intsOf, blsOf, b2n, Option.map_some, Option.bind_some, Option.map_none, Option.bind_none, truthy, reduceIte, if_true, if_false, isCont, Nat.reduceAdd, Nat.reduceSub, Nat.reduceLT, Nat.reduceMul, Nat.reducePow, Int.reduceLE, Int.reduceLT, Int.reduceToNat, Int.reduceAdd, Int.reduceSub, Int.reduceMul, Int.reduceNeg, Int.reducePow, Nat.zero_add, Nat.zero_lt_succ, and_self, and_true, true_and, decide_true, decide_false, Bool.false_and, Bool.and_false, Bool.true_and, Bool.and_true, Bool.not_true, Bool.not_false, Bool.or_false, Bool.or_true, Bool.false_or, Bool.true_or, eq_self, Bool.false_eq_true, String.reduceBEq, String.reduceEq, beq_self_eq_true, List.all_cons, List.all_nil, List.any_cons, List.any_nil, itemsOf, cmulB, cpowB, h0, SL2]
  · obtain ⟨n, rfl⟩ := Int.eq_ofNat_of_zero_le (by omega : 0 ≤ a)
    rw [Int.toNat_natCast]
    by_cases hq : p ≤ n
    · have hn : leftB p st n = false := by
        rw [Bool.eq_false_iff]; intro q
        obtain ⟨m, _, e, _⟩ := leftB_iff.mp q
        omega
      have e1 : ((p : Int) ≤ (n : Int)) := by omega
      rw [hn]
      rw [x__law_due, ev_fn (by rfl)]
      simp (decide := true) (dsimp := false) only [cmp_ei, cmp_ni, cmp_es, cmp_ns, cmp_lt, cmp_le, cmp_gt, cmp_ge, cmp_is, cmp_isn, cmp_in, cmp_nin, ↓evR_comp, ↓evR_dcomp, ↓evR_tand, ↓evR_tor, ↓evR_and, ↓evR_or, ↓evR_ite, ↓evR_cmp2, ↓evS_ifs, iteB_t, iteB_f, iteK_t, iteK_f, iB_and, iB_and2, iB_or, iB_or2, iB_int, iB_str, iB_same, str1_eq, natc_eq, blsOf_f, strsOf_f, intsOf_f, blsOf_map, strsOf_map, intsOf_map, rangeP_n, ov_t, ov_f, wipeE, ix_tup0, ix_tup1, ix_tup2, ix_tup3, ix_lst0, ix_lst1, ix_lst2, ix_lst3, in01, List.all_map, List.any_map, ↓evS_for, ↓evS_whl, turnS_b, turnD_b, evF, fixN, evSs, evS, evR, evA, evL, evI, plc, tst, fz, ↓bd_k, ↓op1_k, bdk_rt, bdk_some, bdk_exc, fin_exc, ↓evS_try, tryS_rt, tryS_exc, evH, evX, excIs, exLt, wipeX, List.zip_nil_left, List.reverse_nil, List.reverse_cons, List.zip_cons_cons, op1k_some, setB, Sg.look, Sg.lookL, drf, Sg.put, entry, fin_ret, fin_nx, bindT, bindTs, callR, List.map_cons, List.map_nil, List.length_cons, List.length_nil, List.length_map, List.replicate_succ, List.replicate_zero, List.getElem?_cons_zero, List.getElem?_cons_succ, List.cons_append, List.nil_append, List.set_cons_zero, List.set_cons_succ, binP, binI, set_lst, p_len_l, p_len_t, p_len_k, p_len_s, p_int_i, p_int_b, p_tup_l, p_tup_t, p_lst_l, p_lst_t, p_srt_l, p_all_f, p_any_f, p_sum_l, metK, mutK, sameK, isinP, isOf, tyName, fput, putFP, keyOf, keyOf1, kindOf, part, isP, strsOf, intsOf, blsOf, b2n, Option.map_some, Option.bind_some, Option.map_none, Option.bind_none, truthy, reduceIte, if_true, if_false, isCont, Nat.reduceAdd, Nat.reduceSub, Nat.reduceLT, Nat.reduceMul, Nat.reducePow, Int.reduceLE, Int.reduceLT, Int.reduceToNat, Int.reduceAdd, Int.reduceSub, Int.reduceMul, Int.reduceNeg, Int.reducePow, Nat.zero_add, Nat.zero_lt_succ, and_self, and_true, true_and, decide_true, decide_false, Bool.false_and, Bool.and_false, Bool.true_and, Bool.and_true, Bool.not_true, Bool.not_false, Bool.or_false, Bool.or_true, Bool.false_or, Bool.true_or, eq_self, Bool.false_eq_true, String.reduceBEq, String.reduceEq, beq_self_eq_true, List.all_cons, List.all_nil, List.any_cons, List.any_nil, itemsOf, cmulB, cpowB, h0, SL2, hl, hp, e1]
    · have e1 : ¬ ((p : Int) ≤ (n : Int)) := by omega
      have ix := idx_chr (s := st) (i := n) (by omega) (by omega)
      by_cases hd : st.getD n 0 = 46
      · have hn : leftB p st n = true := leftB_iff.mpr ⟨n, by omega, rfl, hd⟩
        rw [if_pos hn]
        have h1 : st.length ≤ SL := by omega
        have h2 : (st.take n).length + 1 ≤ SL := by rw [List.length_take]; have := L.ro.p10; simp [SL]; omega
        have h3 : (st.take n ++ [c]).length + (st.drop (n + 1)).length ≤ SL := by have := L.ro.p10; simp [SL]; omega
        have hf := law_fit_ok L.ro (st.set n c) (by rw [List.length_set]; exact hl) mu
        have hs := isSt_set L.ro h (a := n) (by omega) hd hc
        rw [← rowsAt_set L.ro.len hl (by omega) hd (by rcases sg01_iff.mp hc with h | h <;> omega)] at hs
        rw [hs]
        by_cases hz : 0 < (rowsAt rs (st.set n c)).length
        · have hz' : ¬ (((rowsAt rs (st.set n c)).length : Int) = 0) := by omega
          rw [decide_eq_true hz]
          rw [x__law_due, ev_fn (by rfl)]
          simp (decide := true) (dsimp := false) only [cmp_ei, cmp_ni, cmp_es, cmp_ns, cmp_lt, cmp_le, cmp_gt, cmp_ge, cmp_is, cmp_isn, cmp_in, cmp_nin, ↓evR_comp, ↓evR_dcomp, ↓evR_tand, ↓evR_tor, ↓evR_and, ↓evR_or, ↓evR_ite, ↓evR_cmp2, ↓evS_ifs, iteB_t, iteB_f, iteK_t, iteK_f, iB_and, iB_and2, iB_or, iB_or2, iB_int, iB_str, iB_same, str1_eq, natc_eq, blsOf_f, strsOf_f, intsOf_f, blsOf_map, strsOf_map, intsOf_map, rangeP_n, ov_t, ov_f, wipeE, ix_tup0, ix_tup1, ix_tup2, ix_tup3, ix_lst0, ix_lst1, ix_lst2, ix_lst3, in01, List.all_map, List.any_map, ↓evS_for, ↓evS_whl, turnS_b, turnD_b, evF, fixN, evSs, evS, evR, evA, evL, evI, plc, tst, fz, ↓bd_k, ↓op1_k, bdk_rt, bdk_some, bdk_exc, fin_exc, ↓evS_try, tryS_rt, tryS_exc, evH, evX, excIs, exLt, wipeX, List.zip_nil_left, List.reverse_nil, List.reverse_cons, List.zip_cons_cons, op1k_some, setB, Sg.look, Sg.lookL, drf, Sg.put, entry, fin_ret, fin_nx, bindT, bindTs, callR, List.map_cons, List.map_nil, List.length_cons, List.length_nil, List.length_map, List.replicate_succ, List.replicate_zero, List.getElem?_cons_zero, List.getElem?_cons_succ, List.cons_append, List.nil_append, List.set_cons_zero, List.set_cons_succ, binP, binI, set_lst, p_len_l, p_len_t, p_len_k, p_len_s, p_int_i, p_int_b, p_tup_l, p_tup_t, p_lst_l, p_lst_t, p_srt_l, p_all_f, p_any_f, p_sum_l, metK, mutK, sameK, isinP, isOf, tyName, fput, putFP, keyOf, keyOf1, kindOf, part, isP, strsOf, intsOf, blsOf, b2n, Option.map_some, Option.bind_some, Option.map_none, Option.bind_none, truthy, reduceIte, if_true, if_false, isCont, Nat.reduceAdd, Nat.reduceSub, Nat.reduceLT, Nat.reduceMul, Nat.reducePow, Int.reduceLE, Int.reduceLT, Int.reduceToNat, Int.reduceAdd, Int.reduceSub, Int.reduceMul, Int.reduceNeg, Int.reducePow, Nat.zero_add, Nat.zero_lt_succ, and_self, and_true, true_and, decide_true, decide_false, Bool.false_and, Bool.and_false, Bool.true_and, Bool.and_true, Bool.not_true, Bool.not_false, Bool.or_false, Bool.or_true, Bool.false_or, Bool.true_or, eq_self, Bool.false_eq_true, String.reduceBEq, String.reduceEq, beq_self_eq_true, List.all_cons, List.all_nil, List.any_cons, List.any_nil, itemsOf, cmulB, cpowB, h0, SL2, hl, hp, e1, ix, hd, slc_to h1, slc_from h1, h2, h3, set_cut (s := st) (i := n) (c := c) (by omega), hf, hz']
        · have hz' : (((rowsAt rs (st.set n c)).length : Int) = 0) := by omega
          rw [decide_eq_false hz]
          rw [x__law_due, ev_fn (by rfl)]
          simp (decide := true) (dsimp := false) only [cmp_ei, cmp_ni, cmp_es, cmp_ns, cmp_lt, cmp_le, cmp_gt, cmp_ge, cmp_is, cmp_isn, cmp_in, cmp_nin, ↓evR_comp, ↓evR_dcomp, ↓evR_tand, ↓evR_tor, ↓evR_and, ↓evR_or, ↓evR_ite, ↓evR_cmp2, ↓evS_ifs, iteB_t, iteB_f, iteK_t, iteK_f, iB_and, iB_and2, iB_or, iB_or2, iB_int, iB_str, iB_same, str1_eq, natc_eq, blsOf_f, strsOf_f, intsOf_f, blsOf_map, strsOf_map, intsOf_map, rangeP_n, ov_t, ov_f, wipeE, ix_tup0, ix_tup1, ix_tup2, ix_tup3, ix_lst0, ix_lst1, ix_lst2, ix_lst3, in01, List.all_map, List.any_map, ↓evS_for, ↓evS_whl, turnS_b, turnD_b, evF, fixN, evSs, evS, evR, evA, evL, evI, plc, tst, fz, ↓bd_k, ↓op1_k, bdk_rt, bdk_some, bdk_exc, fin_exc, ↓evS_try, tryS_rt, tryS_exc, evH, evX, excIs, exLt, wipeX, List.zip_nil_left, List.reverse_nil, List.reverse_cons, List.zip_cons_cons, op1k_some, setB, Sg.look, Sg.lookL, drf, Sg.put, entry, fin_ret, fin_nx, bindT, bindTs, callR, List.map_cons, List.map_nil, List.length_cons, List.length_nil, List.length_map, List.replicate_succ, List.replicate_zero, List.getElem?_cons_zero, List.getElem?_cons_succ, List.cons_append, List.nil_append, List.set_cons_zero, List.set_cons_succ, binP, binI, set_lst, p_len_l, p_len_t, p_len_k, p_len_s, p_int_i, p_int_b, p_tup_l, p_tup_t, p_lst_l, p_lst_t, p_srt_l, p_all_f, p_any_f, p_sum_l, metK, mutK, sameK, isinP, isOf, tyName, fput, putFP, keyOf, keyOf1, kindOf, part, isP, strsOf, intsOf, blsOf, b2n, Option.map_some, Option.bind_some, Option.map_none, Option.bind_none, truthy, reduceIte, if_true, if_false, isCont, Nat.reduceAdd, Nat.reduceSub, Nat.reduceLT, Nat.reduceMul, Nat.reducePow, Int.reduceLE, Int.reduceLT, Int.reduceToNat, Int.reduceAdd, Int.reduceSub, Int.reduceMul, Int.reduceNeg, Int.reducePow, Nat.zero_add, Nat.zero_lt_succ, and_self, and_true, true_and, decide_true, decide_false, Bool.false_and, Bool.and_false, Bool.true_and, Bool.and_true, Bool.not_true, Bool.not_false, Bool.or_false, Bool.or_true, Bool.false_or, Bool.true_or, eq_self, Bool.false_eq_true, String.reduceBEq, String.reduceEq, beq_self_eq_true, List.all_cons, List.all_nil, List.any_cons, List.any_nil, itemsOf, cmulB, cpowB, h0, SL2, hl, hp, e1, ix, hd, slc_to h1, slc_from h1, h2, h3, set_cut (s := st) (i := n) (c := c) (by omega), hf, hz']
      · have hn : leftB p st n = false := by
          rw [Bool.eq_false_iff]; intro q
          obtain ⟨m, _, e, hm⟩ := leftB_iff.mp q
          have : m = n := by omega
          subst this; exact hd hm
        have hd' : (st.getD n 0 == 46) = false := by rw [beq_eq_false_iff_ne]; exact hd
        rw [hn]
        rw [x__law_due, ev_fn (by rfl)]
        simp (decide := true) (dsimp := false) only [cmp_ei, cmp_ni, cmp_es, cmp_ns, cmp_lt, cmp_le, cmp_gt, cmp_ge, cmp_is, cmp_isn, cmp_in, cmp_nin, ↓evR_comp, ↓evR_dcomp, ↓evR_tand, ↓evR_tor, ↓evR_and, ↓evR_or, ↓evR_ite, ↓evR_cmp2, ↓evS_ifs, iteB_t, iteB_f, iteK_t, iteK_f, iB_and, iB_and2, iB_or, iB_or2, iB_int, iB_str, iB_same, str1_eq, natc_eq, blsOf_f, strsOf_f, intsOf_f, blsOf_map, strsOf_map, intsOf_map, rangeP_n, ov_t, ov_f, wipeE, ix_tup0, ix_tup1, ix_tup2, ix_tup3, ix_lst0, ix_lst1, ix_lst2, ix_lst3, in01, List.all_map, List.any_map, ↓evS_for, ↓evS_whl, turnS_b, turnD_b, evF, fixN, evSs, evS, evR, evA, evL, evI, plc, tst, fz, ↓bd_k, ↓op1_k, bdk_rt, bdk_some, bdk_exc, fin_exc, ↓evS_try, tryS_rt, tryS_exc, evH, evX, excIs, exLt, wipeX, List.zip_nil_left, List.reverse_nil, List.reverse_cons, List.zip_cons_cons, op1k_some, setB, Sg.look, Sg.lookL, drf, Sg.put, entry, fin_ret, fin_nx, bindT, bindTs, callR, List.map_cons, List.map_nil, List.length_cons, List.length_nil, List.length_map, List.replicate_succ, List.replicate_zero, List.getElem?_cons_zero, List.getElem?_cons_succ, List.cons_append, List.nil_append, List.set_cons_zero, List.set_cons_succ, binP, binI, set_lst, p_len_l, p_len_t, p_len_k, p_len_s, p_int_i, p_int_b, p_tup_l, p_tup_t, p_lst_l, p_lst_t, p_srt_l, p_all_f, p_any_f, p_sum_l, metK, mutK, sameK, isinP, isOf, tyName, fput, putFP, keyOf, keyOf1, kindOf, part, isP, strsOf, intsOf, blsOf, b2n, Option.map_some, Option.bind_some, Option.map_none, Option.bind_none, truthy, reduceIte, if_true, if_false, isCont, Nat.reduceAdd, Nat.reduceSub, Nat.reduceLT, Nat.reduceMul, Nat.reducePow, Int.reduceLE, Int.reduceLT, Int.reduceToNat, Int.reduceAdd, Int.reduceSub, Int.reduceMul, Int.reduceNeg, Int.reducePow, Nat.zero_add, Nat.zero_lt_succ, and_self, and_true, true_and, decide_true, decide_false, Bool.false_and, Bool.and_false, Bool.true_and, Bool.and_true, Bool.not_true, Bool.not_false, Bool.or_false, Bool.or_true, Bool.false_or, Bool.true_or, eq_self, Bool.false_eq_true, String.reduceBEq, String.reduceEq, beq_self_eq_true, List.all_cons, List.all_nil, List.any_cons, List.any_nil, itemsOf, cmulB, cpowB, h0, SL2, hl, hp, e1, ix, hd']
end Lk

namespace Lk
theorem forS_brk {t : XT} {body : XSs} {F : Fn} {x : PV} {r : List PV} {s s1 s2 : Sg} (h1 : bindT t x s = some s1) (h2 : evSs body F s1 = rt .nx s2) {m : Rs Fl} (h3 : forS t body F r s2 = m) : forS t body F (x :: r) s = m := by
  rw [forS_cons, h1]
  show bd (evSs body F s1) _ = m
  rw [h2]; exact h3
theorem parted_law {p k : Nat} {rs : List (List Nat)} {kn : PV} {mu : List PV} (L : LC p rs kn mu k) (st : List Nat) (h : isSt p rs st = true) {a : Nat} (ha : a < p) (hd : st.getD a 0 = 46) : evF x__law_is_parted [.ref k, strL rs, .str st, .int a] mu = some (.ok (.bl true, false), mu) := by
  have hl := isSt_len h
  have W := rowsAt_rw L.ro h
  have hsub : ∀ r ∈ rowsAt rs st, r ∈ rs := fun r hr => (rowsAt_sub hr).1
  have asc : AscS (rowsAt rs st) := L.asc.fil
  have srt := sort_parts L.ro hsub asc ha
  have hc : ∀ r ∈ rowsAt rs st, ∀ c ∈ r, c < 1114112 := fun r hr => L.ro.c r (hsub r hr)
  have ce := cmp_rE (dOk_strs hc).1 (by decide)
  have hf := law_fit_ok L.ro st hl mu
  have step : ∀ c, sg01 c = true → ∀ (acc : List (List Nat)) (x7 : Cell) (b : Bool), acc.length ≤ 64 → ∃ y7, evSs x__law_is_parted_b0 (fun _ _ => none) ⟨[.val (.ref k), .val (strL rs), .val (.str st), .val (.int a), ov b (strL (rowsAt rs st)), .own (strL acc), .val (.str [c]), x7, .non], mu⟩ =
      rt .nx ⟨[.val (.ref k), .val (strL rs), .val (.str st), .val (.int a), .val (strL (rowsAt rs st)), .own (strL (acc ++ sgAt a c (rowsAt rs st))), .val (.str [c]), y7, .non], mu⟩ := by
    intro c hc acc x7 b hacc
    have hs := isSt_set L.ro h ha hd hc
    have hn : leftB p st a = true := leftB_iff.mpr ⟨a, ha, rfl, hd⟩
    have hset := rowsAt_set L.ro.len hl ha hd (c := c) (by rcases sg01_iff.mp hc with h | h <;> omega)
    cases hany : (rowsAt rs st).any fun r => r.getD a 0 == c with
    | false =>
      have hz : sgAt a c (rowsAt rs st) = [] := by
        unfold sgAt
        rw [List.filter_eq_nil_iff]
        exact fun r hr => by have := List.any_eq_false.mp hany r hr; exact this
      rw [hz, List.append_nil]
      refine ⟨x7, ?_⟩
      rw [x__law_is_parted_b0]
      cases b with
      | true =>
          simp (decide := true) (dsimp := false) only [cmp_ei, cmp_ni, cmp_es, cmp_ns, cmp_lt, cmp_le, cmp_gt, cmp_ge, cmp_is, cmp_isn, cmp_in, cmp_nin, ↓evR_comp, ↓evR_dcomp, ↓evR_tand, ↓evR_tor, ↓evR_and, ↓evR_or, ↓evR_ite, ↓evR_cmp2, ↓evS_ifs, iteB_t, iteB_f, iteK_t, iteK_f, iB_and, iB_and2, iB_or, iB_or2, iB_int, iB_str, iB_same, str1_eq, natc_eq, blsOf_f, strsOf_f, intsOf_f, blsOf_map, strsOf_map, intsOf_map, rangeP_n, ov_t, ov_f, wipeE, ix_tup0, ix_tup1, ix_tup2, ix_tup3, ix_lst0, ix_lst1, ix_lst2, ix_lst3, in01, List.all_map, List.any_map, ↓evS_for, ↓evS_whl, turnS_b, turnD_b, evF, fixN, evSs, evS, evR, evA, evL, evI, plc, tst, fz, ↓bd_k, ↓op1_k, bdk_rt, bdk_some, bdk_exc, fin_exc, ↓evS_try, tryS_rt, tryS_exc, evH, evX, excIs, exLt, wipeX, List.zip_nil_left, List.reverse_nil, List.reverse_cons, List.zip_cons_cons, op1k_some, setB, Sg.look, Sg.lookL, drf, Sg.put, entry, fin_ret, fin_nx, bindT, bindTs, callR, List.map_cons, List.map_nil, List.length_cons, List.length_nil, List.length_map, List.replicate_succ, List.replicate_zero, List.getElem?_cons_zero, List.getElem?_cons_succ, List.cons_append, List.nil_append, List.set_cons_zero, List.set_cons_succ, binP, binI, set_lst, p_len_l, p_len_t, p_len_k, p_len_s, p_int_i, p_int_b, p_tup_l, p_tup_t, p_lst_l, p_lst_t, p_srt_l, p_all_f, p_any_f, p_sum_l, metK, mutK, sameK, isinP, isOf, tyName, fput, putFP, keyOf, keyOf1, kindOf, part, isP, strsOf, intsOf, blsOf, b2n, Option.map_some, Option.bind_some, Option.map_none, Option.bind_none, truthy, reduceIte, if_true, if_false, isCont, Nat.reduceAdd, Nat.reduceSub, Nat.reduceLT, Nat.reduceMul, Nat.reducePow, Int.reduceLE, Int.reduceLT, Int.reduceToNat, Int.reduceAdd, Int.reduceSub, Int.reduceMul, Int.reduceNeg, Int.reducePow, Nat.zero_add, Nat.zero_lt_succ, and_self, and_true, true_and, decide_true, decide_false, Bool.false_and, Bool.and_false, Bool.true_and, Bool.and_true, Bool.not_true, Bool.not_false, Bool.or_false, Bool.or_true, Bool.false_or, Bool.true_or, eq_self, Bool.false_eq_true, String.reduceBEq, String.reduceEq, beq_self_eq_true, List.all_cons, List.all_nil, List.any_cons, List.any_nil, itemsOf, cmulB, cpowB]
          rw [cm_map (out := ?o) (env' := ?e) ?h rfl (by exact W.mS)]
          case h =>
            intro r hr
            constructor
            · rw [x__law_is_parted_e0]
              simp (decide := true) (dsimp := false) only [cmp_ei, cmp_ni, cmp_es, cmp_ns, cmp_lt, cmp_le, cmp_gt, cmp_ge, cmp_is, cmp_isn, cmp_in, cmp_nin, ↓evR_comp, ↓evR_dcomp, ↓evR_tand, ↓evR_tor, ↓evR_and, ↓evR_or, ↓evR_ite, ↓evR_cmp2, ↓evS_ifs, iteB_t, iteB_f, iteK_t, iteK_f, iB_and, iB_and2, iB_or, iB_or2, iB_int, iB_str, iB_same, str1_eq, natc_eq, blsOf_f, strsOf_f, intsOf_f, blsOf_map, strsOf_map, intsOf_map, rangeP_n, ov_t, ov_f, wipeE, ix_tup0, ix_tup1, ix_tup2, ix_tup3, ix_lst0, ix_lst1, ix_lst2, ix_lst3, in01, List.all_map, List.any_map, ↓evS_for, ↓evS_whl, turnS_b, turnD_b, evF, fixN, evSs, evS, evR, evA, evL, evI, plc, tst, fz, ↓bd_k, ↓op1_k, bdk_rt, bdk_some, bdk_exc, fin_exc, ↓evS_try, tryS_rt, tryS_exc, evH, evX, excIs, exLt, wipeX, List.zip_nil_left, List.reverse_nil, List.reverse_cons, List.zip_cons_cons, op1k_some, setB, Sg.look, Sg.lookL, drf, Sg.put, entry, fin_ret, fin_nx, bindT, bindTs, callR, List.map_cons, List.map_nil, List.length_cons, List.length_nil, List.length_map, List.replicate_succ, List.replicate_zero, List.getElem?_cons_zero, List.getElem?_cons_succ, List.cons_append, List.nil_append, List.set_cons_zero, List.set_cons_succ, binP, binI, set_lst, p_len_l, p_len_t, p_len_k, p_len_s, p_int_i, p_int_b, p_tup_l, p_tup_t, p_lst_l, p_lst_t, p_srt_l, p_all_f, p_any_f, p_sum_l, metK, mutK, sameK, isinP, isOf, tyName, fput, putFP, keyOf, keyOf1, kindOf, part, isP, strsOf, intsOf, blsOf, b2n, Option.map_some, Option.bind_some, Option.map_none, Option.bind_none, truthy, reduceIte, if_true, if_false, isCont, Nat.reduceAdd, Nat.reduceSub, Nat.reduceLT, Nat.reduceMul, Nat.reducePow, Int.reduceLE, Int.reduceLT, Int.reduceToNat, Int.reduceAdd, Int.reduceSub, Int.reduceMul, Int.reduceNeg, Int.reducePow, Nat.zero_add, Nat.zero_lt_succ, and_self, and_true, true_and, decide_true, decide_false, Bool.false_and, Bool.and_false, Bool.true_and, Bool.and_true, Bool.not_true, Bool.not_false, Bool.or_false, Bool.or_true, Bool.false_or, Bool.true_or, eq_self, Bool.false_eq_true, String.reduceBEq, String.reduceEq, beq_self_eq_true, List.all_cons, List.all_nil, List.any_cons, List.any_nil, itemsOf, cmulB, cpowB, W.at_ ha hr]
              try rfl
            · rfl
          simp (decide := true) (dsimp := false) only [cmp_ei, cmp_ni, cmp_es, cmp_ns, cmp_lt, cmp_le, cmp_gt, cmp_ge, cmp_is, cmp_isn, cmp_in, cmp_nin, ↓evR_comp, ↓evR_dcomp, ↓evR_tand, ↓evR_tor, ↓evR_and, ↓evR_or, ↓evR_ite, ↓evR_cmp2, ↓evS_ifs, iteB_t, iteB_f, iteK_t, iteK_f, iB_and, iB_and2, iB_or, iB_or2, iB_int, iB_str, iB_same, str1_eq, natc_eq, blsOf_f, strsOf_f, intsOf_f, blsOf_map, strsOf_map, intsOf_map, rangeP_n, ov_t, ov_f, wipeE, ix_tup0, ix_tup1, ix_tup2, ix_tup3, ix_lst0, ix_lst1, ix_lst2, ix_lst3, in01, List.all_map, List.any_map, ↓evS_for, ↓evS_whl, turnS_b, turnD_b, evF, fixN, evSs, evS, evR, evA, evL, evI, plc, tst, fz, ↓bd_k, ↓op1_k, bdk_rt, bdk_some, bdk_exc, fin_exc, ↓evS_try, tryS_rt, tryS_exc, evH, evX, excIs, exLt, wipeX, List.zip_nil_left, List.reverse_nil, List.reverse_cons, List.zip_cons_cons, op1k_some, setB, Sg.look, Sg.lookL, drf, Sg.put, entry, fin_ret, fin_nx, bindT, bindTs, callR, List.map_cons, List.map_nil, List.length_cons, List.length_nil, List.length_map, List.replicate_succ, List.replicate_zero, List.getElem?_cons_zero, List.getElem?_cons_succ, List.cons_append, List.nil_append, List.set_cons_zero, List.set_cons_succ, binP, binI, set_lst, p_len_l, p_len_t, p_len_k, p_len_s, p_int_i, p_int_b, p_tup_l, p_tup_t, p_lst_l, p_lst_t, p_srt_l, p_all_f, p_any_f, p_sum_l, metK, mutK, sameK, isinP, isOf, tyName, fput, putFP, keyOf, keyOf1, kindOf, part, isP, strsOf, intsOf, blsOf, b2n, Option.map_some, Option.bind_some, Option.map_none, Option.bind_none, truthy, reduceIte, if_true, if_false, isCont, Nat.reduceAdd, Nat.reduceSub, Nat.reduceLT, Nat.reduceMul, Nat.reducePow, Int.reduceLE, Int.reduceLT, Int.reduceToNat, Int.reduceAdd, Int.reduceSub, Int.reduceMul, Int.reduceNeg, Int.reducePow, Nat.zero_add, Nat.zero_lt_succ, and_self, and_true, true_and, decide_true, decide_false, Bool.false_and, Bool.and_false, Bool.true_and, Bool.and_true, Bool.not_true, Bool.not_false, Bool.or_false, Bool.or_true, Bool.false_or, Bool.true_or, eq_self, Bool.false_eq_true, String.reduceBEq, String.reduceEq, beq_self_eq_true, List.all_cons, List.all_nil, List.any_cons, List.any_nil, itemsOf, cmulB, cpowB, in_1s, hany]
      | false =>
          simp (decide := true) (dsimp := false) only [cmp_ei, cmp_ni, cmp_es, cmp_ns, cmp_lt, cmp_le, cmp_gt, cmp_ge, cmp_is, cmp_isn, cmp_in, cmp_nin, ↓evR_comp, ↓evR_dcomp, ↓evR_tand, ↓evR_tor, ↓evR_and, ↓evR_or, ↓evR_ite, ↓evR_cmp2, ↓evS_ifs, iteB_t, iteB_f, iteK_t, iteK_f, iB_and, iB_and2, iB_or, iB_or2, iB_int, iB_str, iB_same, str1_eq, natc_eq, blsOf_f, strsOf_f, intsOf_f, blsOf_map, strsOf_map, intsOf_map, rangeP_n, ov_t, ov_f, wipeE, ix_tup0, ix_tup1, ix_tup2, ix_tup3, ix_lst0, ix_lst1, ix_lst2, ix_lst3, in01, List.all_map, List.any_map, ↓evS_for, ↓evS_whl, turnS_b, turnD_b, evF, fixN, evSs, evS, evR, evA, evL, evI, plc, tst, fz, ↓bd_k, ↓op1_k, bdk_rt, bdk_some, bdk_exc, fin_exc, ↓evS_try, tryS_rt, tryS_exc, evH, evX, excIs, exLt, wipeX, List.zip_nil_left, List.reverse_nil, List.reverse_cons, List.zip_cons_cons, op1k_some, setB, Sg.look, Sg.lookL, drf, Sg.put, entry, fin_ret, fin_nx, bindT, bindTs, callR, List.map_cons, List.map_nil, List.length_cons, List.length_nil, List.length_map, List.replicate_succ, List.replicate_zero, List.getElem?_cons_zero, List.getElem?_cons_succ, List.cons_append, List.nil_append, List.set_cons_zero, List.set_cons_succ, binP, binI, set_lst, p_len_l, p_len_t, p_len_k, p_len_s, p_int_i, p_int_b, p_tup_l, p_tup_t, p_lst_l, p_lst_t, p_srt_l, p_all_f, p_any_f, p_sum_l, metK, mutK, sameK, isinP, isOf, tyName, fput, putFP, keyOf, keyOf1, kindOf, part, isP, strsOf, intsOf, blsOf, b2n, Option.map_some, Option.bind_some, Option.map_none, Option.bind_none, truthy, reduceIte, if_true, if_false, isCont, Nat.reduceAdd, Nat.reduceSub, Nat.reduceLT, Nat.reduceMul, Nat.reducePow, Int.reduceLE, Int.reduceLT, Int.reduceToNat, Int.reduceAdd, Int.reduceSub, Int.reduceMul, Int.reduceNeg, Int.reducePow, Nat.zero_add, Nat.zero_lt_succ, and_self, and_true, true_and, decide_true, decide_false, Bool.false_and, Bool.and_false, Bool.true_and, Bool.and_true, Bool.not_true, Bool.not_false, Bool.or_false, Bool.or_true, Bool.false_or, Bool.true_or, eq_self, Bool.false_eq_true, String.reduceBEq, String.reduceEq, beq_self_eq_true, List.all_cons, List.all_nil, List.any_cons, List.any_nil, itemsOf, cmulB, cpowB]
          rw [cm_map (out := ?oz) (env' := ?ez) ?hz rfl (by exact W.mS)]
          case hz =>
            intro r hr
            constructor
            · rw [x__law_is_parted_e0]
              simp (decide := true) (dsimp := false) only [cmp_ei, cmp_ni, cmp_es, cmp_ns, cmp_lt, cmp_le, cmp_gt, cmp_ge, cmp_is, cmp_isn, cmp_in, cmp_nin, ↓evR_comp, ↓evR_dcomp, ↓evR_tand, ↓evR_tor, ↓evR_and, ↓evR_or, ↓evR_ite, ↓evR_cmp2, ↓evS_ifs, iteB_t, iteB_f, iteK_t, iteK_f, iB_and, iB_and2, iB_or, iB_or2, iB_int, iB_str, iB_same, str1_eq, natc_eq, blsOf_f, strsOf_f, intsOf_f, blsOf_map, strsOf_map, intsOf_map, rangeP_n, ov_t, ov_f, wipeE, ix_tup0, ix_tup1, ix_tup2, ix_tup3, ix_lst0, ix_lst1, ix_lst2, ix_lst3, in01, List.all_map, List.any_map, ↓evS_for, ↓evS_whl, turnS_b, turnD_b, evF, fixN, evSs, evS, evR, evA, evL, evI, plc, tst, fz, ↓bd_k, ↓op1_k, bdk_rt, bdk_some, bdk_exc, fin_exc, ↓evS_try, tryS_rt, tryS_exc, evH, evX, excIs, exLt, wipeX, List.zip_nil_left, List.reverse_nil, List.reverse_cons, List.zip_cons_cons, op1k_some, setB, Sg.look, Sg.lookL, drf, Sg.put, entry, fin_ret, fin_nx, bindT, bindTs, callR, List.map_cons, List.map_nil, List.length_cons, List.length_nil, List.length_map, List.replicate_succ, List.replicate_zero, List.getElem?_cons_zero, List.getElem?_cons_succ, List.cons_append, List.nil_append, List.set_cons_zero, List.set_cons_succ, binP, binI, set_lst, p_len_l, p_len_t, p_len_k, p_len_s, p_int_i, p_int_b, p_tup_l, p_tup_t, p_lst_l, p_lst_t, p_srt_l, p_all_f, p_any_f, p_sum_l, metK, mutK, sameK, isinP, isOf, tyName, fput, putFP, keyOf, keyOf1, kindOf, part, isP, strsOf, intsOf, blsOf, b2n, Option.map_some, Option.bind_some, Option.map_none, Option.bind_none, truthy, reduceIte, if_true, if_false, isCont, Nat.reduceAdd, Nat.reduceSub, Nat.reduceLT, Nat.reduceMul, Nat.reducePow, Int.reduceLE, Int.reduceLT, Int.reduceToNat, Int.reduceAdd, Int.reduceSub, Int.reduceMul, Int.reduceNeg, Int.reducePow, Nat.zero_add, Nat.zero_lt_succ, and_self, and_true, true_and, decide_true, decide_false, Bool.false_and, Bool.and_false, Bool.true_and, Bool.and_true, Bool.not_true, Bool.not_false, Bool.or_false, Bool.or_true, Bool.false_or, Bool.true_or, eq_self, Bool.false_eq_true, String.reduceBEq, String.reduceEq, beq_self_eq_true, List.all_cons, List.all_nil, List.any_cons, List.any_nil, itemsOf, cmulB, cpowB, W.at_ ha hr]
              try rfl
            · rfl
          simp (decide := true) (dsimp := false) only [cmp_ei, cmp_ni, cmp_es, cmp_ns, cmp_lt, cmp_le, cmp_gt, cmp_ge, cmp_is, cmp_isn, cmp_in, cmp_nin, ↓evR_comp, ↓evR_dcomp, ↓evR_tand, ↓evR_tor, ↓evR_and, ↓evR_or, ↓evR_ite, ↓evR_cmp2, ↓evS_ifs, iteB_t, iteB_f, iteK_t, iteK_f, iB_and, iB_and2, iB_or, iB_or2, iB_int, iB_str, iB_same, str1_eq, natc_eq, blsOf_f, strsOf_f, intsOf_f, blsOf_map, strsOf_map, intsOf_map, rangeP_n, ov_t, ov_f, wipeE, ix_tup0, ix_tup1, ix_tup2, ix_tup3, ix_lst0, ix_lst1, ix_lst2, ix_lst3, in01, List.all_map, List.any_map, ↓evS_for, ↓evS_whl, turnS_b, turnD_b, evF, fixN, evSs, evS, evR, evA, evL, evI, plc, tst, fz, ↓bd_k, ↓op1_k, bdk_rt, bdk_some, bdk_exc, fin_exc, ↓evS_try, tryS_rt, tryS_exc, evH, evX, excIs, exLt, wipeX, List.zip_nil_left, List.reverse_nil, List.reverse_cons, List.zip_cons_cons, op1k_some, setB, Sg.look, Sg.lookL, drf, Sg.put, entry, fin_ret, fin_nx, bindT, bindTs, callR, List.map_cons, List.map_nil, List.length_cons, List.length_nil, List.length_map, List.replicate_succ, List.replicate_zero, List.getElem?_cons_zero, List.getElem?_cons_succ, List.cons_append, List.nil_append, List.set_cons_zero, List.set_cons_succ, binP, binI, set_lst, p_len_l, p_len_t, p_len_k, p_len_s, p_int_i, p_int_b, p_tup_l, p_tup_t, p_lst_l, p_lst_t, p_srt_l, p_all_f, p_any_f, p_sum_l, metK, mutK, sameK, isinP, isOf, tyName, fput, putFP, keyOf, keyOf1, kindOf, part, isP, strsOf, intsOf, blsOf, b2n, Option.map_some, Option.bind_some, Option.map_none, Option.bind_none, truthy, reduceIte, if_true, if_false, isCont, Nat.reduceAdd, Nat.reduceSub, Nat.reduceLT, Nat.reduceMul, Nat.reducePow, Int.reduceLE, Int.reduceLT, Int.reduceToNat, Int.reduceAdd, Int.reduceSub, Int.reduceMul, Int.reduceNeg, Int.reducePow, Nat.zero_add, Nat.zero_lt_succ, and_self, and_true, true_and, decide_true, decide_false, Bool.false_and, Bool.and_false, Bool.true_and, Bool.and_true, Bool.not_true, Bool.not_false, Bool.or_false, Bool.or_true, Bool.false_or, Bool.true_or, eq_self, Bool.false_eq_true, String.reduceBEq, String.reduceEq, beq_self_eq_true, List.all_cons, List.all_nil, List.any_cons, List.any_nil, itemsOf, cmulB, cpowB, in_1s, hany]
    | true =>
      obtain ⟨r, hr, hrc⟩ := List.any_eq_true.mp hany
      have hpos : 0 < (sgAt a c (rowsAt rs st)).length := List.length_pos_iff.mpr (List.ne_nil_of_mem (List.mem_filter.mpr ⟨hr, hrc⟩))
      rw [decide_eq_true hpos] at hs
      have et := told_ok L st h hn hc hs
      have eF := fitting_ok L (st.set a c) hs
      rw [hset] at eF
      have W2 : RW p (sgAt a c (rowsAt rs st)) := W.fil (List.length_pos_iff.mp hpos)
      have hx : mutP .extend (.lst (acc.map .str)) [.lst ((sgAt a c (rowsAt rs st)).map .str)] = some (.lst ((acc ++ sgAt a c (rowsAt rs st)).map .str), .non) := by
        rw [List.map_append]
        have := W2.most
        exact if_pos (by rw [List.length_map, List.length_map]; simp [SL]; omega)
      have hz : ((sgAt a c (rowsAt rs st)).filter fun _ => false) = [] := by simp
      refine ⟨.val (strL (sgAt a c (rowsAt rs st))), ?_⟩
      rw [x__law_is_parted_b0]
      cases b with
      | true =>
          simp (decide := true) (dsimp := false) only [cmp_ei, cmp_ni, cmp_es, cmp_ns, cmp_lt, cmp_le, cmp_gt, cmp_ge, cmp_is, cmp_isn, cmp_in, cmp_nin, ↓evR_comp, ↓evR_dcomp, ↓evR_tand, ↓evR_tor, ↓evR_and, ↓evR_or, ↓evR_ite, ↓evR_cmp2, ↓evS_ifs, iteB_t, iteB_f, iteK_t, iteK_f, iB_and, iB_and2, iB_or, iB_or2, iB_int, iB_str, iB_same, str1_eq, natc_eq, blsOf_f, strsOf_f, intsOf_f, blsOf_map, strsOf_map, intsOf_map, rangeP_n, ov_t, ov_f, wipeE, ix_tup0, ix_tup1, ix_tup2, ix_tup3, ix_lst0, ix_lst1, ix_lst2, ix_lst3, in01, List.all_map, List.any_map, ↓evS_for, ↓evS_whl, turnS_b, turnD_b, evF, fixN, evSs, evS, evR, evA, evL, evI, plc, tst, fz, ↓bd_k, ↓op1_k, bdk_rt, bdk_some, bdk_exc, fin_exc, ↓evS_try, tryS_rt, tryS_exc, evH, evX, excIs, exLt, wipeX, List.zip_nil_left, List.reverse_nil, List.reverse_cons, List.zip_cons_cons, op1k_some, setB, Sg.look, Sg.lookL, drf, Sg.put, entry, fin_ret, fin_nx, bindT, bindTs, callR, List.map_cons, List.map_nil, List.length_cons, List.length_nil, List.length_map, List.replicate_succ, List.replicate_zero, List.getElem?_cons_zero, List.getElem?_cons_succ, List.cons_append, List.nil_append, List.set_cons_zero, List.set_cons_succ, binP, binI, set_lst, p_len_l, p_len_t, p_len_k, p_len_s, p_int_i, p_int_b, p_tup_l, p_tup_t, p_lst_l, p_lst_t, p_srt_l, p_all_f, p_any_f, p_sum_l, metK, mutK, sameK, isinP, isOf, tyName, fput, putFP, keyOf, keyOf1, kindOf, part, isP, strsOf, intsOf, blsOf, b2n, Option.map_some, Option.bind_some, Option.map_none, Option.bind_none, truthy, reduceIte, if_true, if_false, isCont, Nat.reduceAdd, Nat.reduceSub, Nat.reduceLT, Nat.reduceMul, Nat.reducePow, Int.reduceLE, Int.reduceLT, Int.reduceToNat, Int.reduceAdd, Int.reduceSub, Int.reduceMul, Int.reduceNeg, Int.reducePow, Nat.zero_add, Nat.zero_lt_succ, and_self, and_true, true_and, decide_true, decide_false, Bool.false_and, Bool.and_false, Bool.true_and, Bool.and_true, Bool.not_true, Bool.not_false, Bool.or_false, Bool.or_true, Bool.false_or, Bool.true_or, eq_self, Bool.false_eq_true, String.reduceBEq, String.reduceEq, beq_self_eq_true, List.all_cons, List.all_nil, List.any_cons, List.any_nil, itemsOf, cmulB, cpowB]
          rw [cm_map (out := ?o) (env' := ?e) ?h rfl (by exact W.mS)]
          case h =>
            intro r hr
            constructor
            · rw [x__law_is_parted_e0]
              simp (decide := true) (dsimp := false) only [cmp_ei, cmp_ni, cmp_es, cmp_ns, cmp_lt, cmp_le, cmp_gt, cmp_ge, cmp_is, cmp_isn, cmp_in, cmp_nin, ↓evR_comp, ↓evR_dcomp, ↓evR_tand, ↓evR_tor, ↓evR_and, ↓evR_or, ↓evR_ite, ↓evR_cmp2, ↓evS_ifs, iteB_t, iteB_f, iteK_t, iteK_f, iB_and, iB_and2, iB_or, iB_or2, iB_int, iB_str, iB_same, str1_eq, natc_eq, blsOf_f, strsOf_f, intsOf_f, blsOf_map, strsOf_map, intsOf_map, rangeP_n, ov_t, ov_f, wipeE, ix_tup0, ix_tup1, ix_tup2, ix_tup3, ix_lst0, ix_lst1, ix_lst2, ix_lst3, in01, List.all_map, List.any_map, ↓evS_for, ↓evS_whl, turnS_b, turnD_b, evF, fixN, evSs, evS, evR, evA, evL, evI, plc, tst, fz, ↓bd_k, ↓op1_k, bdk_rt, bdk_some, bdk_exc, fin_exc, ↓evS_try, tryS_rt, tryS_exc, evH, evX, excIs, exLt, wipeX, List.zip_nil_left, List.reverse_nil, List.reverse_cons, List.zip_cons_cons, op1k_some, setB, Sg.look, Sg.lookL, drf, Sg.put, entry, fin_ret, fin_nx, bindT, bindTs, callR, List.map_cons, List.map_nil, List.length_cons, List.length_nil, List.length_map, List.replicate_succ, List.replicate_zero, List.getElem?_cons_zero, List.getElem?_cons_succ, List.cons_append, List.nil_append, List.set_cons_zero, List.set_cons_succ, binP, binI, set_lst, p_len_l, p_len_t, p_len_k, p_len_s, p_int_i, p_int_b, p_tup_l, p_tup_t, p_lst_l, p_lst_t, p_srt_l, p_all_f, p_any_f, p_sum_l, metK, mutK, sameK, isinP, isOf, tyName, fput, putFP, keyOf, keyOf1, kindOf, part, isP, strsOf, intsOf, blsOf, b2n, Option.map_some, Option.bind_some, Option.map_none, Option.bind_none, truthy, reduceIte, if_true, if_false, isCont, Nat.reduceAdd, Nat.reduceSub, Nat.reduceLT, Nat.reduceMul, Nat.reducePow, Int.reduceLE, Int.reduceLT, Int.reduceToNat, Int.reduceAdd, Int.reduceSub, Int.reduceMul, Int.reduceNeg, Int.reducePow, Nat.zero_add, Nat.zero_lt_succ, and_self, and_true, true_and, decide_true, decide_false, Bool.false_and, Bool.and_false, Bool.true_and, Bool.and_true, Bool.not_true, Bool.not_false, Bool.or_false, Bool.or_true, Bool.false_or, Bool.true_or, eq_self, Bool.false_eq_true, String.reduceBEq, String.reduceEq, beq_self_eq_true, List.all_cons, List.all_nil, List.any_cons, List.any_nil, itemsOf, cmulB, cpowB, W.at_ ha hr]
              try rfl
            · rfl
          simp (decide := true) (dsimp := false) only [cmp_ei, cmp_ni, cmp_es, cmp_ns, cmp_lt, cmp_le, cmp_gt, cmp_ge, cmp_is, cmp_isn, cmp_in, cmp_nin, ↓evR_comp, ↓evR_dcomp, ↓evR_tand, ↓evR_tor, ↓evR_and, ↓evR_or, ↓evR_ite, ↓evR_cmp2, ↓evS_ifs, iteB_t, iteB_f, iteK_t, iteK_f, iB_and, iB_and2, iB_or, iB_or2, iB_int, iB_str, iB_same, str1_eq, natc_eq, blsOf_f, strsOf_f, intsOf_f, blsOf_map, strsOf_map, intsOf_map, rangeP_n, ov_t, ov_f, wipeE, ix_tup0, ix_tup1, ix_tup2, ix_tup3, ix_lst0, ix_lst1, ix_lst2, ix_lst3, in01, List.all_map, List.any_map, ↓evS_for, ↓evS_whl, turnS_b, turnD_b, evF, fixN, evSs, evS, evR, evA, evL, evI, plc, tst, fz, ↓bd_k, ↓op1_k, bdk_rt, bdk_some, bdk_exc, fin_exc, ↓evS_try, tryS_rt, tryS_exc, evH, evX, excIs, exLt, wipeX, List.zip_nil_left, List.reverse_nil, List.reverse_cons, List.zip_cons_cons, op1k_some, setB, Sg.look, Sg.lookL, drf, Sg.put, entry, fin_ret, fin_nx, bindT, bindTs, callR, List.map_cons, List.map_nil, List.length_cons, List.length_nil, List.length_map, List.replicate_succ, List.replicate_zero, List.getElem?_cons_zero, List.getElem?_cons_succ, List.cons_append, List.nil_append, List.set_cons_zero, List.set_cons_succ, binP, binI, set_lst, p_len_l, p_len_t, p_len_k, p_len_s, p_int_i, p_int_b, p_tup_l, p_tup_t, p_lst_l, p_lst_t, p_srt_l, p_all_f, p_any_f, p_sum_l, metK, mutK, sameK, isinP, isOf, tyName, fput, putFP, keyOf, keyOf1, kindOf, part, isP, strsOf, intsOf, blsOf, b2n, Option.map_some, Option.bind_some, Option.map_none, Option.bind_none, truthy, reduceIte, if_true, if_false, isCont, Nat.reduceAdd, Nat.reduceSub, Nat.reduceLT, Nat.reduceMul, Nat.reducePow, Int.reduceLE, Int.reduceLT, Int.reduceToNat, Int.reduceAdd, Int.reduceSub, Int.reduceMul, Int.reduceNeg, Int.reducePow, Nat.zero_add, Nat.zero_lt_succ, and_self, and_true, true_and, decide_true, decide_false, Bool.false_and, Bool.and_false, Bool.true_and, Bool.and_true, Bool.not_true, Bool.not_false, Bool.or_false, Bool.or_true, Bool.false_or, Bool.true_or, eq_self, Bool.false_eq_true, String.reduceBEq, String.reduceEq, beq_self_eq_true, List.all_cons, List.all_nil, List.any_cons, List.any_nil, itemsOf, cmulB, cpowB, in_1s, hany, et, eF]
          rw [cm_fi (P := fun _ => false) (out := .str) (env' := ?e2) ?h2 rfl (by exact W2.mS)]
          case h2 =>
            intro r hr
            have h1 : (r.getD a 0 == c) = true := (List.mem_filter.mp hr).2
            constructor
            · simp (decide := true) (dsimp := false) only [cmp_ei, cmp_ni, cmp_es, cmp_ns, cmp_lt, cmp_le, cmp_gt, cmp_ge, cmp_is, cmp_isn, cmp_in, cmp_nin, ↓evR_comp, ↓evR_dcomp, ↓evR_tand, ↓evR_tor, ↓evR_and, ↓evR_or, ↓evR_ite, ↓evR_cmp2, ↓evS_ifs, iteB_t, iteB_f, iteK_t, iteK_f, iB_and, iB_and2, iB_or, iB_or2, iB_int, iB_str, iB_same, str1_eq, natc_eq, blsOf_f, strsOf_f, intsOf_f, blsOf_map, strsOf_map, intsOf_map, rangeP_n, ov_t, ov_f, wipeE, ix_tup0, ix_tup1, ix_tup2, ix_tup3, ix_lst0, ix_lst1, ix_lst2, ix_lst3, in01, List.all_map, List.any_map, ↓evS_for, ↓evS_whl, turnS_b, turnD_b, evF, fixN, evSs, evS, evR, evA, evL, evI, plc, tst, fz, ↓bd_k, ↓op1_k, bdk_rt, bdk_some, bdk_exc, fin_exc, ↓evS_try, tryS_rt, tryS_exc, evH, evX, excIs, exLt, wipeX, List.zip_nil_left, List.reverse_nil, List.reverse_cons, List.zip_cons_cons, op1k_some, setB, Sg.look, Sg.lookL, drf, Sg.put, entry, fin_ret, fin_nx, bindT, bindTs, callR, List.map_cons, List.map_nil, List.length_cons, List.length_nil, List.length_map, List.replicate_succ, List.replicate_zero, List.getElem?_cons_zero, List.getElem?_cons_succ, List.cons_append, List.nil_append, List.set_cons_zero, List.set_cons_succ, binP, binI, set_lst, p_len_l, p_len_t, p_len_k, p_len_s, p_int_i, p_int_b, p_tup_l, p_tup_t, p_lst_l, p_lst_t, p_srt_l, p_all_f, p_any_f, p_sum_l, metK, mutK, sameK, isinP, isOf, tyName, fput, putFP, keyOf, keyOf1, kindOf, part, isP, strsOf, intsOf, blsOf, b2n, Option.map_some, Option.bind_some, Option.map_none, Option.bind_none, truthy, reduceIte, if_true, if_false, isCont, Nat.reduceAdd, Nat.reduceSub, Nat.reduceLT, Nat.reduceMul, Nat.reducePow, Int.reduceLE, Int.reduceLT, Int.reduceToNat, Int.reduceAdd, Int.reduceSub, Int.reduceMul, Int.reduceNeg, Int.reducePow, Nat.zero_add, Nat.zero_lt_succ, and_self, and_true, true_and, decide_true, decide_false, Bool.false_and, Bool.and_false, Bool.true_and, Bool.and_true, Bool.not_true, Bool.not_false, Bool.or_false, Bool.or_true, Bool.false_or, Bool.true_or, eq_self, Bool.false_eq_true, String.reduceBEq, String.reduceEq, beq_self_eq_true, List.all_cons, List.all_nil, List.any_cons, List.any_nil, itemsOf, cmulB, cpowB, W2.at_ ha hr, h1, cmp_ns]
              try rfl
            · rfl
          rw [hz]
          simp (decide := true) (dsimp := false) only [cmp_ei, cmp_ni, cmp_es, cmp_ns, cmp_lt, cmp_le, cmp_gt, cmp_ge, cmp_is, cmp_isn, cmp_in, cmp_nin, ↓evR_comp, ↓evR_dcomp, ↓evR_tand, ↓evR_tor, ↓evR_and, ↓evR_or, ↓evR_ite, ↓evR_cmp2, ↓evS_ifs, iteB_t, iteB_f, iteK_t, iteK_f, iB_and, iB_and2, iB_or, iB_or2, iB_int, iB_str, iB_same, str1_eq, natc_eq, blsOf_f, strsOf_f, intsOf_f, blsOf_map, strsOf_map, intsOf_map, rangeP_n, ov_t, ov_f, wipeE, ix_tup0, ix_tup1, ix_tup2, ix_tup3, ix_lst0, ix_lst1, ix_lst2, ix_lst3, in01, List.all_map, List.any_map, ↓evS_for, ↓evS_whl, turnS_b, turnD_b, evF, fixN, evSs, evS, evR, evA, evL, evI, plc, tst, fz, ↓bd_k, ↓op1_k, bdk_rt, bdk_some, bdk_exc, fin_exc, ↓evS_try, tryS_rt, tryS_exc, evH, evX, excIs, exLt, wipeX, List.zip_nil_left, List.reverse_nil, List.reverse_cons, List.zip_cons_cons, op1k_some, setB, Sg.look, Sg.lookL, drf, Sg.put, entry, fin_ret, fin_nx, bindT, bindTs, callR, List.map_cons, List.map_nil, List.length_cons, List.length_nil, List.length_map, List.replicate_succ, List.replicate_zero, List.getElem?_cons_zero, List.getElem?_cons_succ, List.cons_append, List.nil_append, List.set_cons_zero, List.set_cons_succ, binP, binI, set_lst, p_len_l, p_len_t, p_len_k, p_len_s, p_int_i, p_int_b, p_tup_l, p_tup_t, p_lst_l, p_lst_t, p_srt_l, p_all_f, p_any_f, p_sum_l, metK, mutK, sameK, isinP, isOf, tyName, fput, putFP, keyOf, keyOf1, kindOf, part, isP, strsOf, intsOf, blsOf, b2n, Option.map_some, Option.bind_some, Option.map_none, Option.bind_none, truthy, reduceIte, if_true, if_false, isCont, Nat.reduceAdd, Nat.reduceSub, Nat.reduceLT, Nat.reduceMul, Nat.reducePow, Int.reduceLE, Int.reduceLT, Int.reduceToNat, Int.reduceAdd, Int.reduceSub, Int.reduceMul, Int.reduceNeg, Int.reducePow, Nat.zero_add, Nat.zero_lt_succ, and_self, and_true, true_and, decide_true, decide_false, Bool.false_and, Bool.and_false, Bool.true_and, Bool.and_true, Bool.not_true, Bool.not_false, Bool.or_false, Bool.or_true, Bool.false_or, Bool.true_or, eq_self, Bool.false_eq_true, String.reduceBEq, String.reduceEq, beq_self_eq_true, List.all_cons, List.all_nil, List.any_cons, List.any_nil, itemsOf, cmulB, cpowB, hx, show ¬ ((0 : Int) < ((0 : Nat) : Int)) by decide]
      | false =>
          simp (decide := true) (dsimp := false) only [cmp_ei, cmp_ni, cmp_es, cmp_ns, cmp_lt, cmp_le, cmp_gt, cmp_ge, cmp_is, cmp_isn, cmp_in, cmp_nin, ↓evR_comp, ↓evR_dcomp, ↓evR_tand, ↓evR_tor, ↓evR_and, ↓evR_or, ↓evR_ite, ↓evR_cmp2, ↓evS_ifs, iteB_t, iteB_f, iteK_t, iteK_f, iB_and, iB_and2, iB_or, iB_or2, iB_int, iB_str, iB_same, str1_eq, natc_eq, blsOf_f, strsOf_f, intsOf_f, blsOf_map, strsOf_map, intsOf_map, rangeP_n, ov_t, ov_f, wipeE, ix_tup0, ix_tup1, ix_tup2, ix_tup3, ix_lst0, ix_lst1, ix_lst2, ix_lst3, in01, List.all_map, List.any_map, ↓evS_for, ↓evS_whl, turnS_b, turnD_b, evF, fixN, evSs, evS, evR, evA, evL, evI, plc, tst, fz, ↓bd_k, ↓op1_k, bdk_rt, bdk_some, bdk_exc, fin_exc, ↓evS_try, tryS_rt, tryS_exc, evH, evX, excIs, exLt, wipeX, List.zip_nil_left, List.reverse_nil, List.reverse_cons, List.zip_cons_cons, op1k_some, setB, Sg.look, Sg.lookL, drf, Sg.put, entry, fin_ret, fin_nx, bindT, bindTs, callR, List.map_cons, List.map_nil, List.length_cons, List.length_nil, List.length_map, List.replicate_succ, List.replicate_zero, List.getElem?_cons_zero, List.getElem?_cons_succ, List.cons_append, List.nil_append, List.set_cons_zero, List.set_cons_succ, binP, binI, set_lst, p_len_l, p_len_t, p_len_k, p_len_s, p_int_i, p_int_b, p_tup_l, p_tup_t, p_lst_l, p_lst_t, p_srt_l, p_all_f, p_any_f, p_sum_l, metK, mutK, sameK, isinP, isOf, tyName, fput, putFP, keyOf, keyOf1, kindOf, part, isP, strsOf, intsOf, blsOf, b2n, Option.map_some, Option.bind_some, Option.map_none, Option.bind_none, truthy, reduceIte, if_true, if_false, isCont, Nat.reduceAdd, Nat.reduceSub, Nat.reduceLT, Nat.reduceMul, Nat.reducePow, Int.reduceLE, Int.reduceLT, Int.reduceToNat, Int.reduceAdd, Int.reduceSub, Int.reduceMul, Int.reduceNeg, Int.reducePow, Nat.zero_add, Nat.zero_lt_succ, and_self, and_true, true_and, decide_true, decide_false, Bool.false_and, Bool.and_false, Bool.true_and, Bool.and_true, Bool.not_true, Bool.not_false, Bool.or_false, Bool.or_true, Bool.false_or, Bool.true_or, eq_self, Bool.false_eq_true, String.reduceBEq, String.reduceEq, beq_self_eq_true, List.all_cons, List.all_nil, List.any_cons, List.any_nil, itemsOf, cmulB, cpowB]
          rw [cm_map (out := ?oz) (env' := ?ez) ?hz rfl (by exact W.mS)]
          case hz =>
            intro r hr
            constructor
            · rw [x__law_is_parted_e0]
              simp (decide := true) (dsimp := false) only [cmp_ei, cmp_ni, cmp_es, cmp_ns, cmp_lt, cmp_le, cmp_gt, cmp_ge, cmp_is, cmp_isn, cmp_in, cmp_nin, ↓evR_comp, ↓evR_dcomp, ↓evR_tand, ↓evR_tor, ↓evR_and, ↓evR_or, ↓evR_ite, ↓evR_cmp2, ↓evS_ifs, iteB_t, iteB_f, iteK_t, iteK_f, iB_and, iB_and2, iB_or, iB_or2, iB_int, iB_str, iB_same, str1_eq, natc_eq, blsOf_f, strsOf_f, intsOf_f, blsOf_map, strsOf_map, intsOf_map, rangeP_n, ov_t, ov_f, wipeE, ix_tup0, ix_tup1, ix_tup2, ix_tup3, ix_lst0, ix_lst1, ix_lst2, ix_lst3, in01, List.all_map, List.any_map, ↓evS_for, ↓evS_whl, turnS_b, turnD_b, evF, fixN, evSs, evS, evR, evA, evL, evI, plc, tst, fz, ↓bd_k, ↓op1_k, bdk_rt, bdk_some, bdk_exc, fin_exc, ↓evS_try, tryS_rt, tryS_exc, evH, evX, excIs, exLt, wipeX, List.zip_nil_left, List.reverse_nil, List.reverse_cons, List.zip_cons_cons, op1k_some, setB, Sg.look, Sg.lookL, drf, Sg.put, entry, fin_ret, fin_nx, bindT, bindTs, callR, List.map_cons, List.map_nil, List.length_cons, List.length_nil, List.length_map, List.replicate_succ, List.replicate_zero, List.getElem?_cons_zero, List.getElem?_cons_succ, List.cons_append, List.nil_append, List.set_cons_zero, List.set_cons_succ, binP, binI, set_lst, p_len_l, p_len_t, p_len_k, p_len_s, p_int_i, p_int_b, p_tup_l, p_tup_t, p_lst_l, p_lst_t, p_srt_l, p_all_f, p_any_f, p_sum_l, metK, mutK, sameK, isinP, isOf, tyName, fput, putFP, keyOf, keyOf1, kindOf, part, isP, strsOf, intsOf, blsOf, b2n, Option.map_some, Option.bind_some, Option.map_none, Option.bind_none, truthy, reduceIte, if_true, if_false, isCont, Nat.reduceAdd, Nat.reduceSub, Nat.reduceLT, Nat.reduceMul, Nat.reducePow, Int.reduceLE, Int.reduceLT, Int.reduceToNat, Int.reduceAdd, Int.reduceSub, Int.reduceMul, Int.reduceNeg, Int.reducePow, Nat.zero_add, Nat.zero_lt_succ, and_self, and_true, true_and, decide_true, decide_false, Bool.false_and, Bool.and_false, Bool.true_and, Bool.and_true, Bool.not_true, Bool.not_false, Bool.or_false, Bool.or_true, Bool.false_or, Bool.true_or, eq_self, Bool.false_eq_true, String.reduceBEq, String.reduceEq, beq_self_eq_true, List.all_cons, List.all_nil, List.any_cons, List.any_nil, itemsOf, cmulB, cpowB, W.at_ ha hr]
              try rfl
            · rfl
          simp (decide := true) (dsimp := false) only [cmp_ei, cmp_ni, cmp_es, cmp_ns, cmp_lt, cmp_le, cmp_gt, cmp_ge, cmp_is, cmp_isn, cmp_in, cmp_nin, ↓evR_comp, ↓evR_dcomp, ↓evR_tand, ↓evR_tor, ↓evR_and, ↓evR_or, ↓evR_ite, ↓evR_cmp2, ↓evS_ifs, iteB_t, iteB_f, iteK_t, iteK_f, iB_and, iB_and2, iB_or, iB_or2, iB_int, iB_str, iB_same, str1_eq, natc_eq, blsOf_f, strsOf_f, intsOf_f, blsOf_map, strsOf_map, intsOf_map, rangeP_n, ov_t, ov_f, wipeE, ix_tup0, ix_tup1, ix_tup2, ix_tup3, ix_lst0, ix_lst1, ix_lst2, ix_lst3, in01, List.all_map, List.any_map, ↓evS_for, ↓evS_whl, turnS_b, turnD_b, evF, fixN, evSs, evS, evR, evA, evL, evI, plc, tst, fz, ↓bd_k, ↓op1_k, bdk_rt, bdk_some, bdk_exc, fin_exc, ↓evS_try, tryS_rt, tryS_exc, evH, evX, excIs, exLt, wipeX, List.zip_nil_left, List.reverse_nil, List.reverse_cons, List.zip_cons_cons, op1k_some, setB, Sg.look, Sg.lookL, drf, Sg.put, entry, fin_ret, fin_nx, bindT, bindTs, callR, List.map_cons, List.map_nil, List.length_cons, List.length_nil, List.length_map, List.replicate_succ, List.replicate_zero, List.getElem?_cons_zero, List.getElem?_cons_succ, List.cons_append, List.nil_append, List.set_cons_zero, List.set_cons_succ, binP, binI, set_lst, p_len_l, p_len_t, p_len_k, p_len_s, p_int_i, p_int_b, p_tup_l, p_tup_t, p_lst_l, p_lst_t, p_srt_l, p_all_f, p_any_f, p_sum_l, metK, mutK, sameK, isinP, isOf, tyName, fput, putFP, keyOf, keyOf1, kindOf, part, isP, strsOf, intsOf, blsOf, b2n, Option.map_some, Option.bind_some, Option.map_none, Option.bind_none, truthy, reduceIte, if_true, if_false, isCont, Nat.reduceAdd, Nat.reduceSub, Nat.reduceLT, Nat.reduceMul, Nat.reducePow, Int.reduceLE, Int.reduceLT, Int.reduceToNat, Int.reduceAdd, Int.reduceSub, Int.reduceMul, Int.reduceNeg, Int.reducePow, Nat.zero_add, Nat.zero_lt_succ, and_self, and_true, true_and, decide_true, decide_false, Bool.false_and, Bool.and_false, Bool.true_and, Bool.and_true, Bool.not_true, Bool.not_false, Bool.or_false, Bool.or_true, Bool.false_or, Bool.true_or, eq_self, Bool.false_eq_true, String.reduceBEq, String.reduceEq, beq_self_eq_true, List.all_cons, List.all_nil, List.any_cons, List.any_nil, itemsOf, cmulB, cpowB, in_1s, hany, et, eF]
          rw [cm_fi (P := fun _ => false) (out := .str) (env' := ?e2z) ?h2z rfl (by exact W2.mS)]
          case h2z =>
            intro r hr
            have h1 : (r.getD a 0 == c) = true := (List.mem_filter.mp hr).2
            constructor
            · simp (decide := true) (dsimp := false) only [cmp_ei, cmp_ni, cmp_es, cmp_ns, cmp_lt, cmp_le, cmp_gt, cmp_ge, cmp_is, cmp_isn, cmp_in, cmp_nin, ↓evR_comp, ↓evR_dcomp, ↓evR_tand, ↓evR_tor, ↓evR_and, ↓evR_or, ↓evR_ite, ↓evR_cmp2, ↓evS_ifs, iteB_t, iteB_f, iteK_t, iteK_f, iB_and, iB_and2, iB_or, iB_or2, iB_int, iB_str, iB_same, str1_eq, natc_eq, blsOf_f, strsOf_f, intsOf_f, blsOf_map, strsOf_map, intsOf_map, rangeP_n, ov_t, ov_f, wipeE, ix_tup0, ix_tup1, ix_tup2, ix_tup3, ix_lst0, ix_lst1, ix_lst2, ix_lst3, in01, List.all_map, List.any_map, ↓evS_for, ↓evS_whl, turnS_b, turnD_b, evF, fixN, evSs, evS, evR, evA, evL, evI, plc, tst, fz, ↓bd_k, ↓op1_k, bdk_rt, bdk_some, bdk_exc, fin_exc, ↓evS_try, tryS_rt, tryS_exc, evH, evX, excIs, exLt, wipeX, List.zip_nil_left, List.reverse_nil, List.reverse_cons, List.zip_cons_cons, op1k_some, setB, Sg.look, Sg.lookL, drf, Sg.put, entry, fin_ret, fin_nx, bindT, bindTs, callR, List.map_cons, List.map_nil, List.length_cons, List.length_nil, List.length_map, List.replicate_succ, List.replicate_zero, List.getElem?_cons_zero, List.getElem?_cons_succ, List.cons_append, List.nil_append, List.set_cons_zero, List.set_cons_succ, binP, binI, set_lst, p_len_l, p_len_t, p_len_k, p_len_s, p_int_i, p_int_b, p_tup_l, p_tup_t, p_lst_l, p_lst_t, p_srt_l, p_all_f, p_any_f, p_sum_l, metK, mutK, sameK, isinP, isOf, tyName, fput, putFP, keyOf, keyOf1, kindOf, part, isP, strsOf, intsOf, blsOf, b2n, Option.map_some, Option.bind_some, Option.map_none, Option.bind_none, truthy, reduceIte, if_true, if_false, isCont, Nat.reduceAdd, Nat.reduceSub, Nat.reduceLT, Nat.reduceMul, Nat.reducePow, Int.reduceLE, Int.reduceLT, Int.reduceToNat, Int.reduceAdd, Int.reduceSub, Int.reduceMul, Int.reduceNeg, Int.reducePow, Nat.zero_add, Nat.zero_lt_succ, and_self, and_true, true_and, decide_true, decide_false, Bool.false_and, Bool.and_false, Bool.true_and, Bool.and_true, Bool.not_true, Bool.not_false, Bool.or_false, Bool.or_true, Bool.false_or, Bool.true_or, eq_self, Bool.false_eq_true, String.reduceBEq, String.reduceEq, beq_self_eq_true, List.all_cons, List.all_nil, List.any_cons, List.any_nil, itemsOf, cmulB, cpowB, W2.at_ ha hr, h1, cmp_ns]
              try rfl
            · rfl
          rw [hz]
          simp (decide := true) (dsimp := false) only [cmp_ei, cmp_ni, cmp_es, cmp_ns, cmp_lt, cmp_le, cmp_gt, cmp_ge, cmp_is, cmp_isn, cmp_in, cmp_nin, ↓evR_comp, ↓evR_dcomp, ↓evR_tand, ↓evR_tor, ↓evR_and, ↓evR_or, ↓evR_ite, ↓evR_cmp2, ↓evS_ifs, iteB_t, iteB_f, iteK_t, iteK_f, iB_and, iB_and2, iB_or, iB_or2, iB_int, iB_str, iB_same, str1_eq, natc_eq, blsOf_f, strsOf_f, intsOf_f, blsOf_map, strsOf_map, intsOf_map, rangeP_n, ov_t, ov_f, wipeE, ix_tup0, ix_tup1, ix_tup2, ix_tup3, ix_lst0, ix_lst1, ix_lst2, ix_lst3, in01, List.all_map, List.any_map, ↓evS_for, ↓evS_whl, turnS_b, turnD_b, evF, fixN, evSs, evS, evR, evA, evL, evI, plc, tst, fz, ↓bd_k, ↓op1_k, bdk_rt, bdk_some, bdk_exc, fin_exc, ↓evS_try, tryS_rt, tryS_exc, evH, evX, excIs, exLt, wipeX, List.zip_nil_left, List.reverse_nil, List.reverse_cons, List.zip_cons_cons, op1k_some, setB, Sg.look, Sg.lookL, drf, Sg.put, entry, fin_ret, fin_nx, bindT, bindTs, callR, List.map_cons, List.map_nil, List.length_cons, List.length_nil, List.length_map, List.replicate_succ, List.replicate_zero, List.getElem?_cons_zero, List.getElem?_cons_succ, List.cons_append, List.nil_append, List.set_cons_zero, List.set_cons_succ, binP, binI, set_lst, p_len_l, p_len_t, p_len_k, p_len_s, p_int_i, p_int_b, p_tup_l, p_tup_t, p_lst_l, p_lst_t, p_srt_l, p_all_f, p_any_f, p_sum_l, metK, mutK, sameK, isinP, isOf, tyName, fput, putFP, keyOf, keyOf1, kindOf, part, isP, strsOf, intsOf, blsOf, b2n, Option.map_some, Option.bind_some, Option.map_none, Option.bind_none, truthy, reduceIte, if_true, if_false, isCont, Nat.reduceAdd, Nat.reduceSub, Nat.reduceLT, Nat.reduceMul, Nat.reducePow, Int.reduceLE, Int.reduceLT, Int.reduceToNat, Int.reduceAdd, Int.reduceSub, Int.reduceMul, Int.reduceNeg, Int.reducePow, Nat.zero_add, Nat.zero_lt_succ, and_self, and_true, true_and, decide_true, decide_false, Bool.false_and, Bool.and_false, Bool.true_and, Bool.and_true, Bool.not_true, Bool.not_false, Bool.or_false, Bool.or_true, Bool.false_or, Bool.true_or, eq_self, Bool.false_eq_true, String.reduceBEq, String.reduceEq, beq_self_eq_true, List.all_cons, List.all_nil, List.any_cons, List.any_nil, itemsOf, cmulB, cpowB, hx, show ¬ ((0 : Int) < ((0 : Nat) : Int)) by decide]
  obtain ⟨y7, s1⟩ := step 48 rfl [] .non true (by simp)
  have hl48 : (sgAt a 48 (rowsAt rs st)).length ≤ 64 := Nat.le_trans (List.length_filter_le _ _) W.most
  obtain ⟨z7, s2⟩ := step 49 rfl (sgAt a 48 (rowsAt rs st)) y7 false hl48
  rw [List.nil_append] at s1
  simp only [strL, List.map_nil, ov_t, ov_f] at s1 s2
  rw [x__law_is_parted, ev_fn (by rfl)]
  simp (decide := true) (dsimp := false) only [cmp_ei, cmp_ni, cmp_es, cmp_ns, cmp_lt, cmp_le, cmp_gt, cmp_ge, cmp_is, cmp_isn, cmp_in, cmp_nin, ↓evR_comp, ↓evR_dcomp, ↓evR_tand, ↓evR_tor, ↓evR_and, ↓evR_or, ↓evR_ite, ↓evR_cmp2, ↓evS_ifs, iteB_t, iteB_f, iteK_t, iteK_f, iB_and, iB_and2, iB_or, iB_or2, iB_int, iB_str, iB_same, str1_eq, natc_eq, blsOf_f, strsOf_f, intsOf_f, blsOf_map, strsOf_map, intsOf_map, rangeP_n, ov_t, ov_f, wipeE, ix_tup0, ix_tup1, ix_tup2, ix_tup3, ix_lst0, ix_lst1, ix_lst2, ix_lst3, in01, List.all_map, List.any_map, ↓evS_for, ↓evS_whl, turnS_b, turnD_b, evF, fixN, evSs, evS, evR, evA, evL, evI, plc, tst, fz, ↓bd_k, ↓op1_k, bdk_rt, bdk_some, bdk_exc, fin_exc, ↓evS_try, tryS_rt, tryS_exc, evH, evX, excIs, exLt, wipeX, List.zip_nil_left, List.reverse_nil, List.reverse_cons, List.zip_cons_cons, op1k_some, setB, Sg.look, Sg.lookL, drf, Sg.put, entry, fin_ret, fin_nx, bindT, bindTs, callR, List.map_cons, List.map_nil, List.length_cons, List.length_nil, List.length_map, List.replicate_succ, List.replicate_zero, List.getElem?_cons_zero, List.getElem?_cons_succ, List.cons_append, List.nil_append, List.set_cons_zero, List.set_cons_succ, binP, binI, set_lst, p_len_l, p_len_t, p_len_k, p_len_s, p_int_i, p_int_b, p_tup_l, p_tup_t, p_lst_l, p_lst_t, p_srt_l, p_all_f, p_any_f, p_sum_l, metK, mutK, sameK, isinP, isOf, tyName, fput, putFP, keyOf, keyOf1, kindOf, part, isP, strsOf, intsOf, blsOf, b2n, Option.map_some, Option.bind_some, Option.map_none, Option.bind_none, truthy, reduceIte, if_true, if_false, isCont, Nat.reduceAdd, Nat.reduceSub, Nat.reduceLT, Nat.reduceMul, Nat.reducePow, Int.reduceLE, Int.reduceLT, Int.reduceToNat, Int.reduceAdd, Int.reduceSub, Int.reduceMul, Int.reduceNeg, Int.reducePow, Nat.zero_add, Nat.zero_lt_succ, and_self, and_true, true_and, decide_true, decide_false, Bool.false_and, Bool.and_false, Bool.true_and, Bool.and_true, Bool.not_true, Bool.not_false, Bool.or_false, Bool.or_true, Bool.false_or, Bool.true_or, eq_self, Bool.false_eq_true, String.reduceBEq, String.reduceEq, beq_self_eq_true, List.all_cons, List.all_nil, List.any_cons, List.any_nil, itemsOf, cmulB, cpowB, hf, forS_cons, forS_nil, s1, s2, show 2 ≤ SL by decide, sortP_strs, srt, ce]
theorem fin_ex {m : Rs Fl} (h : ∃ s, m = rt (.ret (.bl true) false) s) : ∃ b mu', fin m = some (.ok (.bl true, b), mu') := by
  obtain ⟨s, rfl⟩ := h
  exact ⟨false, s.mu, rfl⟩
theorem ans_cmp {p : Nat} {rs : List (List Nat)} {st : List Nat} (hm : st.all markB = true) {a : Int} {c : Nat} (hc : sg01 c = true) : cmpP .ne (.tup (ansL p rs st a c)) (.tup (ansL p rs st a c)) = some false := by
  have h0 : ∀ s : List Nat, (∀ c ∈ s, c < 1114112) → ∀ v : PV, dOk 0 v → dOk 1 (.tup [.str s, v]) := fun s hs v hv => dOk_tup fun x hx => by
    simp only [List.mem_cons, List.not_mem_nil, or_false] at hx
    rcases hx with rfl | rfl
    · exact dOk_str hs
    · exact hv
  unfold ansL
  split
  · split
    · exact cmp_rN (h0 _ (by decide) _ (dOk_str (markB_c (all_set hm (by unfold markB; rw [hc]; rfl))))) (by decide)
    · exact cmp_rN (h0 _ (by decide) _ dOk_int) (by decide)
  · exact cmp_rN (h0 _ (by decide) _ dOk_int) (by decide)
end Lk

namespace Lw
open Lk
theorem law_holds (ns : List Int) (hl : ns.length ≤ 63) : ∃ b mu', evF x_law [.scr ns] [] = some (.ok (.bl true, b), mu') := by
  obtain ⟨d, hd, e1⟩ := deck_ok ns hl
  obtain ⟨p, nums, d2, hp, N, hd2, e2⟩ := rows3_ok hd []
  obtain ⟨RO, asc⟩ := N.rows (by omega)
  generalize rowsOf p nums = rs at *
  have e3 := init_ok RO asc (.refl _) [d2]
  have L : LC p rs (.dic false []) [d2, lotK p rs (.dic false [])] 1 := ⟨RO, asc, rfl⟩
  have r0l : (rs.getD 0 []).length = p := RO.len _ (getD0_mem RO.ne)
  have i0 := idxL0 (f := PV.str) (d := []) RO.ne
  have hsl := RO.pS
  obtain ⟨b6, e6⟩ := strings_ok p hp [d2, lotK p rs (.dic false [])]
  -- both signs at one place
  have two : ∀ (st : List Nat) (h : isSt p rs st = true) (a : Int) (x5 : PV) (x7 : Cell) (fr : Cell), ∃ y7, forS (.name 7) x_law_b2 (fun _ _ => none) [.str [48], .str [49]] ⟨[.val (.scr ns), .val (.ref 0), .val (strL rs), .val (.ref 1), .val (.int p), .val (.str st), .val (.int a), x7], [d2, lotK p rs (.dic false [])]⟩ =
      rt .nx ⟨[.val (.scr ns), .val (.ref 0), .val (strL rs), .val (.ref 1), .val (.int p), .val (.str st), .val (.int a), y7], [d2, lotK p rs (.dic false [])]⟩ := by
    intro st h a x5 x7 fr
    have hm := isSt_mark h
    have c1 := ans_cmp (p := p) (rs := rs) hm (a := a) (c := 48) rfl
    have c2 := ans_cmp (p := p) (rs := rs) hm (a := a) (c := 49) rfl
    have a1 := answer_ok L st h a (c := 48) rfl
    have a2 := answer_ok L st h a (c := 49) rfl
    have b1 := due_ok L st h a (c := 48) rfl
    have b2 := due_ok L st h a (c := 49) rfl
    refine ⟨.val (.str [49]), ?_⟩
    simp only [strL] at *
    generalize ansL p rs st a 48 = v1 at *
    generalize ansL p rs st a 49 = v2 at *
    rw [x_law_b2]
    simp (decide := true) (dsimp := false) only [cmp_ei, cmp_ni, cmp_es, cmp_ns, cmp_lt, cmp_le, cmp_gt, cmp_ge, cmp_is, cmp_isn, cmp_in, cmp_nin, ↓evR_comp, ↓evR_dcomp, ↓evR_tand, ↓evR_tor, ↓evR_and, ↓evR_or, ↓evR_ite, ↓evR_cmp2, ↓evS_ifs, iteB_t, iteB_f, iteK_t, iteK_f, iB_and, iB_and2, iB_or, iB_or2, iB_int, iB_str, iB_same, str1_eq, natc_eq, blsOf_f, strsOf_f, intsOf_f, blsOf_map, strsOf_map, intsOf_map, rangeP_n, ov_t, ov_f, wipeE, ix_tup0, ix_tup1, ix_tup2, ix_tup3, ix_lst0, ix_lst1, ix_lst2, ix_lst3, in01, List.all_map, List.any_map, ↓evS_for, ↓evS_whl, turnS_b, turnD_b, evF, fixN, evSs, evS, evR, evA, evL, evI, plc, tst, fz, ↓bd_k, ↓op1_k, bdk_rt, bdk_some, bdk_exc, fin_exc, ↓evS_try, tryS_rt, tryS_exc, evH, evX, excIs, exLt, wipeX, List.zip_nil_left, List.reverse_nil, List.reverse_cons, List.zip_cons_cons, op1k_some, setB, Sg.look, Sg.lookL, drf, Sg.put, entry, fin_ret, fin_nx, bindT, bindTs, callR, List.map_cons, List.map_nil, List.length_cons, List.length_nil, List.length_map, List.replicate_succ, List.replicate_zero, List.getElem?_cons_zero, List.getElem?_cons_succ, List.cons_append, List.nil_append, List.set_cons_zero, List.set_cons_succ, binP, binI, set_lst, p_len_l, p_len_t, p_len_k, p_len_s, p_int_i, p_int_b, p_tup_l, p_tup_t, p_lst_l, p_lst_t, p_srt_l, p_all_f, p_any_f, p_sum_l, metK, mutK, sameK, isinP, isOf, tyName, fput, putFP, keyOf, keyOf1, kindOf, part, isP, strsOf, intsOf, blsOf, b2n, Option.map_some, Option.bind_some, Option.map_none, Option.bind_none, truthy, reduceIte, if_true, if_false, isCont, Nat.reduceAdd, Nat.reduceSub, Nat.reduceLT, Nat.reduceMul, Nat.reducePow, Int.reduceLE, Int.reduceLT, Int.reduceToNat, Int.reduceAdd, Int.reduceSub, Int.reduceMul, Int.reduceNeg, Int.reducePow, Nat.zero_add, Nat.zero_lt_succ, and_self, and_true, true_and, decide_true, decide_false, Bool.false_and, Bool.and_false, Bool.true_and, Bool.and_true, Bool.not_true, Bool.not_false, Bool.or_false, Bool.or_true, Bool.false_or, Bool.true_or, eq_self, Bool.false_eq_true, String.reduceBEq, String.reduceEq, beq_self_eq_true, List.all_cons, List.all_nil, List.any_cons, List.any_nil, itemsOf, cmulB, cpowB, forS_cons, forS_nil, a1, a2, b1, b2, c1, c2]
  have all : ∀ (st : List Nat) (h : isSt p rs st = true) (x6 x7 : Cell), ∃ y6 y7, forS (.name 6) x_law_b1 (fun _ _ => none) (rangeP (-1) ((p : Int) + 1)) ⟨[.val (.scr ns), .val (.ref 0), .val (strL rs), .val (.ref 1), .val (.int p), .val (.str st), x6, x7], [d2, lotK p rs (.dic false [])]⟩ =
      rt .nx ⟨[.val (.scr ns), .val (.ref 0), .val (strL rs), .val (.ref 1), .val (.int p), .val (.str st), y6, y7], [d2, lotK p rs (.dic false [])]⟩ := by
    intro st h x6 x7
    obtain ⟨s', e, y6, y7, rfl⟩ := forS_nx (t := .name 6) (body := x_law_b1) (F := fun _ _ => none) (xs := rangeP (-1) ((p : Int) + 1)) (s := ⟨[.val (.scr ns), .val (.ref 0), .val (strL rs), .val (.ref 1), .val (.int p), .val (.str st), x6, x7], [d2, lotK p rs (.dic false [])]⟩)
      (fun _ s => ∃ y6 y7, s = ⟨[.val (.scr ns), .val (.ref 0), .val (strL rs), .val (.ref 1), .val (.int p), .val (.str st), y6, y7], [d2, lotK p rs (.dic false [])]⟩) ⟨_, _, rfl⟩ (fun i x s hx hs => by
        obtain ⟨y6, y7, rfl⟩ := hs
        obtain ⟨a, a0, a1, rfl⟩ := mem_rangeP.mp (List.mem_of_getElem? hx)
        obtain ⟨z7, e2⟩ := two st h a .non y7 .non
        simp only [strL] at e2 ⊢
        refine ⟨_, ⟨[.val (.scr ns), .val (.ref 0), .val (strL rs), .val (.ref 1), .val (.int p), .val (.str st), .val (.int a), z7], [d2, lotK p rs (.dic false [])]⟩, rfl, ?_, _, _, rfl⟩
        rw [x_law_b1]
        by_cases h0 : 0 ≤ a
        · by_cases h1 : a < p
          · obtain ⟨n, rfl⟩ := Int.eq_ofNat_of_zero_le h0
            have hn : n < p := by omega
            have ix := idx_chr (s := st) (i := n) (by rw [isSt_len h]; exact hn) (by rw [isSt_len h]; exact hsl)
            cases hdt : st.getD n 0 == 46 with
            | true =>
              have ep := parted_law L st h hn (beq_iff_eq.mp hdt)
              simp only [strL] at ep
              simp (decide := true) (dsimp := false) only [cmp_ei, cmp_ni, cmp_es, cmp_ns, cmp_lt, cmp_le, cmp_gt, cmp_ge, cmp_is, cmp_isn, cmp_in, cmp_nin, ↓evR_comp, ↓evR_dcomp, ↓evR_tand, ↓evR_tor, ↓evR_and, ↓evR_or, ↓evR_ite, ↓evR_cmp2, ↓evS_ifs, iteB_t, iteB_f, iteK_t, iteK_f, iB_and, iB_and2, iB_or, iB_or2, iB_int, iB_str, iB_same, str1_eq, natc_eq, blsOf_f, strsOf_f, intsOf_f, blsOf_map, strsOf_map, intsOf_map, rangeP_n, ov_t, ov_f, wipeE, ix_tup0, ix_tup1, ix_tup2, ix_tup3, ix_lst0, ix_lst1, ix_lst2, ix_lst3, in01, List.all_map, List.any_map, ↓evS_for, ↓evS_whl, turnS_b, turnD_b, evF, fixN, evSs, evS, evR, evA, evL, evI, plc, tst, fz, ↓bd_k, ↓op1_k, bdk_rt, bdk_some, bdk_exc, fin_exc, ↓evS_try, tryS_rt, tryS_exc, evH, evX, excIs, exLt, wipeX, List.zip_nil_left, List.reverse_nil, List.reverse_cons, List.zip_cons_cons, op1k_some, setB, Sg.look, Sg.lookL, drf, Sg.put, entry, fin_ret, fin_nx, bindT, bindTs, callR, List.map_cons, List.map_nil, List.length_cons, List.length_nil, List.length_map, List.replicate_succ, List.replicate_zero, List.getElem?_cons_zero, List.getElem?_cons_succ, List.cons_append, List.nil_append, List.set_cons_zero, List.set_cons_succ, binP, binI, set_lst, p_len_l, p_len_t, p_len_k, p_len_s, p_int_i, p_int_b, p_tup_l, p_tup_t, p_lst_l, p_lst_t, p_srt_l, p_all_f, p_any_f, p_sum_l, metK, mutK, sameK, isinP, isOf, tyName, fput, putFP, keyOf, keyOf1, kindOf, part, isP, strsOf, intsOf, blsOf, b2n, Option.map_some, Option.bind_some, Option.map_none, Option.bind_none, truthy, reduceIte, if_true, if_false, isCont, Nat.reduceAdd, Nat.reduceSub, Nat.reduceLT, Nat.reduceMul, Nat.reducePow, Int.reduceLE, Int.reduceLT, Int.reduceToNat, Int.reduceAdd, Int.reduceSub, Int.reduceMul, Int.reduceNeg, Int.reducePow, Nat.zero_add, Nat.zero_lt_succ, and_self, and_true, true_and, decide_true, decide_false, Bool.false_and, Bool.and_false, Bool.true_and, Bool.and_true, Bool.not_true, Bool.not_false, Bool.or_false, Bool.or_true, Bool.false_or, Bool.true_or, eq_self, Bool.false_eq_true, String.reduceBEq, String.reduceEq, beq_self_eq_true, List.all_cons, List.all_nil, List.any_cons, List.any_nil, itemsOf, cmulB, cpowB, e2, h0, h1, ix, hdt, ep]
            | false => simp (decide := true) (dsimp := false) only [cmp_ei, cmp_ni, cmp_es, cmp_ns, cmp_lt, cmp_le, cmp_gt, cmp_ge, cmp_is, cmp_isn, cmp_in, cmp_nin, ↓evR_comp, ↓evR_dcomp, ↓evR_tand, ↓evR_tor, ↓evR_and, ↓evR_or, ↓evR_ite, ↓evR_cmp2, ↓evS_ifs, iteB_t, iteB_f, iteK_t, iteK_f, iB_and, iB_and2, iB_or, iB_or2, iB_int, iB_str, iB_same, str1_eq, natc_eq, blsOf_f, strsOf_f, intsOf_f, blsOf_map, strsOf_map, intsOf_map, rangeP_n, ov_t, ov_f, wipeE, ix_tup0, ix_tup1, ix_tup2, ix_tup3, ix_lst0, ix_lst1, ix_lst2, ix_lst3, in01, List.all_map, List.any_map, ↓evS_for, ↓evS_whl, turnS_b, turnD_b, evF, fixN, evSs, evS, evR, evA, evL, evI, plc, tst, fz, ↓bd_k, ↓op1_k, bdk_rt, bdk_some, bdk_exc, fin_exc, ↓evS_try, tryS_rt, tryS_exc, evH, evX, excIs, exLt, wipeX, List.zip_nil_left, List.reverse_nil, List.reverse_cons, List.zip_cons_cons, op1k_some, setB, Sg.look, Sg.lookL, drf, Sg.put, entry, fin_ret, fin_nx, bindT, bindTs, callR, List.map_cons, List.map_nil, List.length_cons, List.length_nil, List.length_map, List.replicate_succ, List.replicate_zero, List.getElem?_cons_zero, List.getElem?_cons_succ, List.cons_append, List.nil_append, List.set_cons_zero, List.set_cons_succ, binP, binI, set_lst, p_len_l, p_len_t, p_len_k, p_len_s, p_int_i, p_int_b, p_tup_l, p_tup_t, p_lst_l, p_lst_t, p_srt_l, p_all_f, p_any_f, p_sum_l, metK, mutK, sameK, isinP, isOf, tyName, fput, putFP, keyOf, keyOf1, kindOf, part, isP, strsOf, intsOf, blsOf, b2n, Option.map_some, Option.bind_some, Option.map_none, Option.bind_none, truthy, reduceIte, if_true, if_false, isCont, Nat.reduceAdd, Nat.reduceSub, Nat.reduceLT, Nat.reduceMul, Nat.reducePow, Int.reduceLE, Int.reduceLT, Int.reduceToNat, Int.reduceAdd, Int.reduceSub, Int.reduceMul, Int.reduceNeg, Int.reducePow, Nat.zero_add, Nat.zero_lt_succ, and_self, and_true, true_and, decide_true, decide_false, Bool.false_and, Bool.and_false, Bool.true_and, Bool.and_true, Bool.not_true, Bool.not_false, Bool.or_false, Bool.or_true, Bool.false_or, Bool.true_or, eq_self, Bool.false_eq_true, String.reduceBEq, String.reduceEq, beq_self_eq_true, List.all_cons, List.all_nil, List.any_cons, List.any_nil, itemsOf, cmulB, cpowB, e2, h0, h1, ix, hdt]
          · simp (decide := true) (dsimp := false) only [cmp_ei, cmp_ni, cmp_es, cmp_ns, cmp_lt, cmp_le, cmp_gt, cmp_ge, cmp_is, cmp_isn, cmp_in, cmp_nin, ↓evR_comp, ↓evR_dcomp, ↓evR_tand, ↓evR_tor, ↓evR_and, ↓evR_or, ↓evR_ite, ↓evR_cmp2, ↓evS_ifs, iteB_t, iteB_f, iteK_t, iteK_f, iB_and, iB_and2, iB_or, iB_or2, iB_int, iB_str, iB_same, str1_eq, natc_eq, blsOf_f, strsOf_f, intsOf_f, blsOf_map, strsOf_map, intsOf_map, rangeP_n, ov_t, ov_f, wipeE, ix_tup0, ix_tup1, ix_tup2, ix_tup3, ix_lst0, ix_lst1, ix_lst2, ix_lst3, in01, List.all_map, List.any_map, ↓evS_for, ↓evS_whl, turnS_b, turnD_b, evF, fixN, evSs, evS, evR, evA, evL, evI, plc, tst, fz, ↓bd_k, ↓op1_k, bdk_rt, bdk_some, bdk_exc, fin_exc, ↓evS_try, tryS_rt, tryS_exc, evH, evX, excIs, exLt, wipeX, List.zip_nil_left, List.reverse_nil, List.reverse_cons, List.zip_cons_cons, op1k_some, setB, Sg.look, Sg.lookL, drf, Sg.put, entry, fin_ret, fin_nx, bindT, bindTs, callR, List.map_cons, List.map_nil, List.length_cons, List.length_nil, List.length_map, List.replicate_succ, List.replicate_zero, List.getElem?_cons_zero, List.getElem?_cons_succ, List.cons_append, List.nil_append, List.set_cons_zero, List.set_cons_succ, binP, binI, set_lst, p_len_l, p_len_t, p_len_k, p_len_s, p_int_i, p_int_b, p_tup_l, p_tup_t, p_lst_l, p_lst_t, p_srt_l, p_all_f, p_any_f, p_sum_l, metK, mutK, sameK, isinP, isOf, tyName, fput, putFP, keyOf, keyOf1, kindOf, part, isP, strsOf, intsOf, blsOf, b2n, Option.map_some, Option.bind_some, Option.map_none, Option.bind_none, truthy, reduceIte, if_true, if_false, isCont, Nat.reduceAdd, Nat.reduceSub, Nat.reduceLT, Nat.reduceMul, Nat.reducePow, Int.reduceLE, Int.reduceLT, Int.reduceToNat, Int.reduceAdd, Int.reduceSub, Int.reduceMul, Int.reduceNeg, Int.reducePow, Nat.zero_add, Nat.zero_lt_succ, and_self, and_true, true_and, decide_true, decide_false, Bool.false_and, Bool.and_false, Bool.true_and, Bool.and_true, Bool.not_true, Bool.not_false, Bool.or_false, Bool.or_true, Bool.false_or, Bool.true_or, eq_self, Bool.false_eq_true, String.reduceBEq, String.reduceEq, beq_self_eq_true, List.all_cons, List.all_nil, List.any_cons, List.any_nil, itemsOf, cmulB, cpowB, e2, h0, h1]
        · simp (decide := true) (dsimp := false) only [cmp_ei, cmp_ni, cmp_es, cmp_ns, cmp_lt, cmp_le, cmp_gt, cmp_ge, cmp_is, cmp_isn, cmp_in, cmp_nin, ↓evR_comp, ↓evR_dcomp, ↓evR_tand, ↓evR_tor, ↓evR_and, ↓evR_or, ↓evR_ite, ↓evR_cmp2, ↓evS_ifs, iteB_t, iteB_f, iteK_t, iteK_f, iB_and, iB_and2, iB_or, iB_or2, iB_int, iB_str, iB_same, str1_eq, natc_eq, blsOf_f, strsOf_f, intsOf_f, blsOf_map, strsOf_map, intsOf_map, rangeP_n, ov_t, ov_f, wipeE, ix_tup0, ix_tup1, ix_tup2, ix_tup3, ix_lst0, ix_lst1, ix_lst2, ix_lst3, in01, List.all_map, List.any_map, ↓evS_for, ↓evS_whl, turnS_b, turnD_b, evF, fixN, evSs, evS, evR, evA, evL, evI, plc, tst, fz, ↓bd_k, ↓op1_k, bdk_rt, bdk_some, bdk_exc, fin_exc, ↓evS_try, tryS_rt, tryS_exc, evH, evX, excIs, exLt, wipeX, List.zip_nil_left, List.reverse_nil, List.reverse_cons, List.zip_cons_cons, op1k_some, setB, Sg.look, Sg.lookL, drf, Sg.put, entry, fin_ret, fin_nx, bindT, bindTs, callR, List.map_cons, List.map_nil, List.length_cons, List.length_nil, List.length_map, List.replicate_succ, List.replicate_zero, List.getElem?_cons_zero, List.getElem?_cons_succ, List.cons_append, List.nil_append, List.set_cons_zero, List.set_cons_succ, binP, binI, set_lst, p_len_l, p_len_t, p_len_k, p_len_s, p_int_i, p_int_b, p_tup_l, p_tup_t, p_lst_l, p_lst_t, p_srt_l, p_all_f, p_any_f, p_sum_l, metK, mutK, sameK, isinP, isOf, tyName, fput, putFP, keyOf, keyOf1, kindOf, part, isP, strsOf, intsOf, blsOf, b2n, Option.map_some, Option.bind_some, Option.map_none, Option.bind_none, truthy, reduceIte, if_true, if_false, isCont, Nat.reduceAdd, Nat.reduceSub, Nat.reduceLT, Nat.reduceMul, Nat.reducePow, Int.reduceLE, Int.reduceLT, Int.reduceToNat, Int.reduceAdd, Int.reduceSub, Int.reduceMul, Int.reduceNeg, Int.reducePow, Nat.zero_add, Nat.zero_lt_succ, and_self, and_true, true_and, decide_true, decide_false, Bool.false_and, Bool.and_false, Bool.true_and, Bool.and_true, Bool.not_true, Bool.not_false, Bool.or_false, Bool.or_true, Bool.false_or, Bool.true_or, eq_self, Bool.false_eq_true, String.reduceBEq, String.reduceEq, beq_self_eq_true, List.all_cons, List.all_nil, List.any_cons, List.any_nil, itemsOf, cmulB, cpowB, e2, h0])
    exact ⟨y6, y7, e⟩
  obtain ⟨⟨g0, g5, g6, g7⟩, e⟩ := for_st (t := .name 5) (body := x_law_b0) (F := fun _ _ => none) (emb := PV.str) (l := allSt p)
    (fun (_ : Unit) (g : Bool × Cell × Cell × Cell) => ⟨[.val (.scr ns), .val (.ref 0), ov g.1 (strL rs), .val (.ref 1), .val (.int p), g.2.1, g.2.2.1, g.2.2.2], [d2, lotK p rs (.dic false [])]⟩) (fun _ => ()) (false, .non, .non, .non) (fun i st g hx => by
    obtain ⟨g0, g5, g6, g7⟩ := g
    obtain ⟨sl, sm⟩ := allSt_mem (List.mem_of_getElem? hx)
    have ef := law_fit_ok RO st sl [d2, lotK p rs (.dic false [])]
    have ei := isSt_iff (rs := rs) sl sm
    have hr : rgB (-1) ((p : Int) + 1) = true := rgB_ok (by decide) (by decide) (by omega) (by omega)
    by_cases hpos : 0 < (rowsAt rs st).length
    · rw [decide_eq_true hpos] at ei
      have hpos' : (0 : Int) < (rowsAt rs st).length := by omega
      obtain ⟨y6, y7, ea⟩ := all st ei g6 g7
      refine ⟨_, (false, .val (.str st), y6, y7), rfl, ?_⟩
      simp only [strL] at ef ea ⊢
      rw [x_law_b0]
      cases g0 with
      | true =>
          simp (decide := true) (dsimp := false) only [cmp_ei, cmp_ni, cmp_es, cmp_ns, cmp_lt, cmp_le, cmp_gt, cmp_ge, cmp_is, cmp_isn, cmp_in, cmp_nin, ↓evR_comp, ↓evR_dcomp, ↓evR_tand, ↓evR_tor, ↓evR_and, ↓evR_or, ↓evR_ite, ↓evR_cmp2, ↓evS_ifs, iteB_t, iteB_f, iteK_t, iteK_f, iB_and, iB_and2, iB_or, iB_or2, iB_int, iB_str, iB_same, str1_eq, natc_eq, blsOf_f, strsOf_f, intsOf_f, blsOf_map, strsOf_map, intsOf_map, rangeP_n, ov_t, ov_f, wipeE, ix_tup0, ix_tup1, ix_tup2, ix_tup3, ix_lst0, ix_lst1, ix_lst2, ix_lst3, in01, List.all_map, List.any_map, ↓evS_for, ↓evS_whl, turnS_b, turnD_b, evF, fixN, evSs, evS, evR, evA, evL, evI, plc, tst, fz, ↓bd_k, ↓op1_k, bdk_rt, bdk_some, bdk_exc, fin_exc, ↓evS_try, tryS_rt, tryS_exc, evH, evX, excIs, exLt, wipeX, List.zip_nil_left, List.reverse_nil, List.reverse_cons, List.zip_cons_cons, op1k_some, setB, Sg.look, Sg.lookL, drf, Sg.put, entry, fin_ret, fin_nx, bindT, bindTs, callR, List.map_cons, List.map_nil, List.length_cons, List.length_nil, List.length_map, List.replicate_succ, List.replicate_zero, List.getElem?_cons_zero, List.getElem?_cons_succ, List.cons_append, List.nil_append, List.set_cons_zero, List.set_cons_succ, binP, binI, set_lst, p_len_l, p_len_t, p_len_k, p_len_s, p_int_i, p_int_b, p_tup_l, p_tup_t, p_lst_l, p_lst_t, p_srt_l, p_all_f, p_any_f, p_sum_l, metK, mutK, sameK, isinP, isOf, tyName, fput, putFP, keyOf, keyOf1, kindOf, part, isP, strsOf, intsOf, blsOf, b2n, Option.map_some, Option.bind_some, Option.map_none, Option.bind_none, truthy, reduceIte, if_true, if_false, isCont, Nat.reduceAdd, Nat.reduceSub, Nat.reduceLT, Nat.reduceMul, Nat.reducePow, Int.reduceLE, Int.reduceLT, Int.reduceToNat, Int.reduceAdd, Int.reduceSub, Int.reduceMul, Int.reduceNeg, Int.reducePow, Nat.zero_add, Nat.zero_lt_succ, and_self, and_true, true_and, decide_true, decide_false, Bool.false_and, Bool.and_false, Bool.true_and, Bool.and_true, Bool.not_true, Bool.not_false, Bool.or_false, Bool.or_true, Bool.false_or, Bool.true_or, eq_self, Bool.false_eq_true, String.reduceBEq, String.reduceEq, beq_self_eq_true, List.all_cons, List.all_nil, List.any_cons, List.any_nil, itemsOf, cmulB, cpowB, ef, hpos', hr, ea]
      | false =>
          simp (decide := true) (dsimp := false) only [cmp_ei, cmp_ni, cmp_es, cmp_ns, cmp_lt, cmp_le, cmp_gt, cmp_ge, cmp_is, cmp_isn, cmp_in, cmp_nin, ↓evR_comp, ↓evR_dcomp, ↓evR_tand, ↓evR_tor, ↓evR_and, ↓evR_or, ↓evR_ite, ↓evR_cmp2, ↓evS_ifs, iteB_t, iteB_f, iteK_t, iteK_f, iB_and, iB_and2, iB_or, iB_or2, iB_int, iB_str, iB_same, str1_eq, natc_eq, blsOf_f, strsOf_f, intsOf_f, blsOf_map, strsOf_map, intsOf_map, rangeP_n, ov_t, ov_f, wipeE, ix_tup0, ix_tup1, ix_tup2, ix_tup3, ix_lst0, ix_lst1, ix_lst2, ix_lst3, in01, List.all_map, List.any_map, ↓evS_for, ↓evS_whl, turnS_b, turnD_b, evF, fixN, evSs, evS, evR, evA, evL, evI, plc, tst, fz, ↓bd_k, ↓op1_k, bdk_rt, bdk_some, bdk_exc, fin_exc, ↓evS_try, tryS_rt, tryS_exc, evH, evX, excIs, exLt, wipeX, List.zip_nil_left, List.reverse_nil, List.reverse_cons, List.zip_cons_cons, op1k_some, setB, Sg.look, Sg.lookL, drf, Sg.put, entry, fin_ret, fin_nx, bindT, bindTs, callR, List.map_cons, List.map_nil, List.length_cons, List.length_nil, List.length_map, List.replicate_succ, List.replicate_zero, List.getElem?_cons_zero, List.getElem?_cons_succ, List.cons_append, List.nil_append, List.set_cons_zero, List.set_cons_succ, binP, binI, set_lst, p_len_l, p_len_t, p_len_k, p_len_s, p_int_i, p_int_b, p_tup_l, p_tup_t, p_lst_l, p_lst_t, p_srt_l, p_all_f, p_any_f, p_sum_l, metK, mutK, sameK, isinP, isOf, tyName, fput, putFP, keyOf, keyOf1, kindOf, part, isP, strsOf, intsOf, blsOf, b2n, Option.map_some, Option.bind_some, Option.map_none, Option.bind_none, truthy, reduceIte, if_true, if_false, isCont, Nat.reduceAdd, Nat.reduceSub, Nat.reduceLT, Nat.reduceMul, Nat.reducePow, Int.reduceLE, Int.reduceLT, Int.reduceToNat, Int.reduceAdd, Int.reduceSub, Int.reduceMul, Int.reduceNeg, Int.reducePow, Nat.zero_add, Nat.zero_lt_succ, and_self, and_true, true_and, decide_true, decide_false, Bool.false_and, Bool.and_false, Bool.true_and, Bool.and_true, Bool.not_true, Bool.not_false, Bool.or_false, Bool.or_true, Bool.false_or, Bool.true_or, eq_self, Bool.false_eq_true, String.reduceBEq, String.reduceEq, beq_self_eq_true, List.all_cons, List.all_nil, List.any_cons, List.any_nil, itemsOf, cmulB, cpowB, ef, hpos', hr, ea]
    · have hpos' : ¬ (0 : Int) < (rowsAt rs st).length := by omega
      refine ⟨_, (false, .val (.str st), g6, g7), rfl, ?_⟩
      simp only [strL] at ef ⊢
      rw [x_law_b0]
      cases g0 with
      | true =>
          simp (decide := true) (dsimp := false) only [cmp_ei, cmp_ni, cmp_es, cmp_ns, cmp_lt, cmp_le, cmp_gt, cmp_ge, cmp_is, cmp_isn, cmp_in, cmp_nin, ↓evR_comp, ↓evR_dcomp, ↓evR_tand, ↓evR_tor, ↓evR_and, ↓evR_or, ↓evR_ite, ↓evR_cmp2, ↓evS_ifs, iteB_t, iteB_f, iteK_t, iteK_f, iB_and, iB_and2, iB_or, iB_or2, iB_int, iB_str, iB_same, str1_eq, natc_eq, blsOf_f, strsOf_f, intsOf_f, blsOf_map, strsOf_map, intsOf_map, rangeP_n, ov_t, ov_f, wipeE, ix_tup0, ix_tup1, ix_tup2, ix_tup3, ix_lst0, ix_lst1, ix_lst2, ix_lst3, in01, List.all_map, List.any_map, ↓evS_for, ↓evS_whl, turnS_b, turnD_b, evF, fixN, evSs, evS, evR, evA, evL, evI, plc, tst, fz, ↓bd_k, ↓op1_k, bdk_rt, bdk_some, bdk_exc, fin_exc, ↓evS_try, tryS_rt, tryS_exc, evH, evX, excIs, exLt, wipeX, List.zip_nil_left, List.reverse_nil, List.reverse_cons, List.zip_cons_cons, op1k_some, setB, Sg.look, Sg.lookL, drf, Sg.put, entry, fin_ret, fin_nx, bindT, bindTs, callR, List.map_cons, List.map_nil, List.length_cons, List.length_nil, List.length_map, List.replicate_succ, List.replicate_zero, List.getElem?_cons_zero, List.getElem?_cons_succ, List.cons_append, List.nil_append, List.set_cons_zero, List.set_cons_succ, binP, binI, set_lst, p_len_l, p_len_t, p_len_k, p_len_s, p_int_i, p_int_b, p_tup_l, p_tup_t, p_lst_l, p_lst_t, p_srt_l, p_all_f, p_any_f, p_sum_l, metK, mutK, sameK, isinP, isOf, tyName, fput, putFP, keyOf, keyOf1, kindOf, part, isP, strsOf, intsOf, blsOf, b2n, Option.map_some, Option.bind_some, Option.map_none, Option.bind_none, truthy, reduceIte, if_true, if_false, isCont, Nat.reduceAdd, Nat.reduceSub, Nat.reduceLT, Nat.reduceMul, Nat.reducePow, Int.reduceLE, Int.reduceLT, Int.reduceToNat, Int.reduceAdd, Int.reduceSub, Int.reduceMul, Int.reduceNeg, Int.reducePow, Nat.zero_add, Nat.zero_lt_succ, and_self, and_true, true_and, decide_true, decide_false, Bool.false_and, Bool.and_false, Bool.true_and, Bool.and_true, Bool.not_true, Bool.not_false, Bool.or_false, Bool.or_true, Bool.false_or, Bool.true_or, eq_self, Bool.false_eq_true, String.reduceBEq, String.reduceEq, beq_self_eq_true, List.all_cons, List.all_nil, List.any_cons, List.any_nil, itemsOf, cmulB, cpowB, ef, hpos']
      | false =>
          simp (decide := true) (dsimp := false) only [cmp_ei, cmp_ni, cmp_es, cmp_ns, cmp_lt, cmp_le, cmp_gt, cmp_ge, cmp_is, cmp_isn, cmp_in, cmp_nin, ↓evR_comp, ↓evR_dcomp, ↓evR_tand, ↓evR_tor, ↓evR_and, ↓evR_or, ↓evR_ite, ↓evR_cmp2, ↓evS_ifs, iteB_t, iteB_f, iteK_t, iteK_f, iB_and, iB_and2, iB_or, iB_or2, iB_int, iB_str, iB_same, str1_eq, natc_eq, blsOf_f, strsOf_f, intsOf_f, blsOf_map, strsOf_map, intsOf_map, rangeP_n, ov_t, ov_f, wipeE, ix_tup0, ix_tup1, ix_tup2, ix_tup3, ix_lst0, ix_lst1, ix_lst2, ix_lst3, in01, List.all_map, List.any_map, ↓evS_for, ↓evS_whl, turnS_b, turnD_b, evF, fixN, evSs, evS, evR, evA, evL, evI, plc, tst, fz, ↓bd_k, ↓op1_k, bdk_rt, bdk_some, bdk_exc, fin_exc, ↓evS_try, tryS_rt, tryS_exc, evH, evX, excIs, exLt, wipeX, List.zip_nil_left, List.reverse_nil, List.reverse_cons, List.zip_cons_cons, op1k_some, setB, Sg.look, Sg.lookL, drf, Sg.put, entry, fin_ret, fin_nx, bindT, bindTs, callR, List.map_cons, List.map_nil, List.length_cons, List.length_nil, List.length_map, List.replicate_succ, List.replicate_zero, List.getElem?_cons_zero, List.getElem?_cons_succ, List.cons_append, List.nil_append, List.set_cons_zero, List.set_cons_succ, binP, binI, set_lst, p_len_l, p_len_t, p_len_k, p_len_s, p_int_i, p_int_b, p_tup_l, p_tup_t, p_lst_l, p_lst_t, p_srt_l, p_all_f, p_any_f, p_sum_l, metK, mutK, sameK, isinP, isOf, tyName, fput, putFP, keyOf, keyOf1, kindOf, part, isP, strsOf, intsOf, blsOf, b2n, Option.map_some, Option.bind_some, Option.map_none, Option.bind_none, truthy, reduceIte, if_true, if_false, isCont, Nat.reduceAdd, Nat.reduceSub, Nat.reduceLT, Nat.reduceMul, Nat.reducePow, Int.reduceLE, Int.reduceLT, Int.reduceToNat, Int.reduceAdd, Int.reduceSub, Int.reduceMul, Int.reduceNeg, Int.reducePow, Nat.zero_add, Nat.zero_lt_succ, and_self, and_true, true_and, decide_true, decide_false, Bool.false_and, Bool.and_false, Bool.true_and, Bool.and_true, Bool.not_true, Bool.not_false, Bool.or_false, Bool.or_true, Bool.false_or, Bool.true_or, eq_self, Bool.false_eq_true, String.reduceBEq, String.reduceEq, beq_self_eq_true, List.all_cons, List.all_nil, List.any_cons, List.any_nil, itemsOf, cmulB, cpowB, ef, hpos'])
  simp only [List.length_cons, List.length_nil, List.cons_append, List.nil_append, Nat.zero_add] at e3
  simp only [strL, ov_f] at e
  have ev : evF x_law [.scr ns] [] = some (.ok (.bl true, false), [d2, lotK p rs (.dic false [])]) := by
    rw [x_law, ev_fn (by rfl)]
    simp (decide := true) (dsimp := false) only [cmp_ei, cmp_ni, cmp_es, cmp_ns, cmp_lt, cmp_le, cmp_gt, cmp_ge, cmp_is, cmp_isn, cmp_in, cmp_nin, ↓evR_comp, ↓evR_dcomp, ↓evR_tand, ↓evR_tor, ↓evR_and, ↓evR_or, ↓evR_ite, ↓evR_cmp2, ↓evS_ifs, iteB_t, iteB_f, iteK_t, iteK_f, iB_and, iB_and2, iB_or, iB_or2, iB_int, iB_str, iB_same, str1_eq, natc_eq, blsOf_f, strsOf_f, intsOf_f, blsOf_map, strsOf_map, intsOf_map, rangeP_n, ov_t, ov_f, wipeE, ix_tup0, ix_tup1, ix_tup2, ix_tup3, ix_lst0, ix_lst1, ix_lst2, ix_lst3, in01, List.all_map, List.any_map, ↓evS_for, ↓evS_whl, turnS_b, turnD_b, evF, fixN, evSs, evS, evR, evA, evL, evI, plc, tst, fz, ↓bd_k, ↓op1_k, bdk_rt, bdk_some, bdk_exc, fin_exc, ↓evS_try, tryS_rt, tryS_exc, evH, evX, excIs, exLt, wipeX, List.zip_nil_left, List.reverse_nil, List.reverse_cons, List.zip_cons_cons, op1k_some, setB, Sg.look, Sg.lookL, drf, Sg.put, entry, fin_ret, fin_nx, bindT, bindTs, callR, List.map_cons, List.map_nil, List.length_cons, List.length_nil, List.length_map, List.replicate_succ, List.replicate_zero, List.getElem?_cons_zero, List.getElem?_cons_succ, List.cons_append, List.nil_append, List.set_cons_zero, List.set_cons_succ, binP, binI, set_lst, p_len_l, p_len_t, p_len_k, p_len_s, p_int_i, p_int_b, p_tup_l, p_tup_t, p_lst_l, p_lst_t, p_srt_l, p_all_f, p_any_f, p_sum_l, metK, mutK, sameK, isinP, isOf, tyName, fput, putFP, keyOf, keyOf1, kindOf, part, isP, strsOf, intsOf, blsOf, b2n, Option.map_some, Option.bind_some, Option.map_none, Option.bind_none, truthy, reduceIte, if_true, if_false, isCont, Nat.reduceAdd, Nat.reduceSub, Nat.reduceLT, Nat.reduceMul, Nat.reducePow, Int.reduceLE, Int.reduceLT, Int.reduceToNat, Int.reduceAdd, Int.reduceSub, Int.reduceMul, Int.reduceNeg, Int.reducePow, Nat.zero_add, Nat.zero_lt_succ, and_self, and_true, true_and, decide_true, decide_false, Bool.false_and, Bool.and_false, Bool.true_and, Bool.and_true, Bool.not_true, Bool.not_false, Bool.or_false, Bool.or_true, Bool.false_or, Bool.true_or, eq_self, Bool.false_eq_true, String.reduceBEq, String.reduceEq, beq_self_eq_true, List.all_cons, List.all_nil, List.any_cons, List.any_nil, itemsOf, cmulB, cpowB, e1, e2, e3, i0, r0l, hsl, e6, e]
  exact ⟨_, _, ev⟩
end Lw

open PySem PySem.W PySem.Calls PyProof.Rows
theorem PySem.Challenge.cw_likeslips_k04_whole_signs_told_in_small_holds : PySem.Challenge.rw_likeslips_k04_whole_signs_told_in_small.Holds := by
  w_on; o_law
  refine HandSHeadRun.head_any (r := OpenLaw.row PySem.Challenge.rw_likeslips_k04_whole_signs_told_in_small) (q := view (OpenLaw.row PySem.Challenge.rw_likeslips_k04_whole_signs_told_in_small).prog [36]) (H := Hd.hk) (ob := Hd.ob) (M := 20000) (loose := Hd.names) (d := HandSHeadRun.topDef (OpenLaw.row PySem.Challenge.rw_likeslips_k04_whole_signs_told_in_small).prog 36) (kwd := []) Hd.ob_eq
    (by kernel_rfl) (fun s => by kernel_rfl) Hd.run (by kernel_rfl) (by kernel_rfl) (by kernel_rfl) (by rfl) (by first | assumption | decide +kernel) (by decide +kernel) ⟨rfl, rfl, rfl, rfl, rfl, by decide +kernel⟩ ?hw ?hc
  case hw => w_witness2
  case hc =>
    refine L2.walk_ofE (l := PySem.Challenge.rw_likeslips_k04_whole_signs_told_in_small) (n := 63) (k := 6) (x := "_law_script") (CX := Lk.CXA) rfl (by decide) (by kernel_rfl) ⟨rfl, by decide, by decide⟩ ?F Lk.law_cx
    intro w mg fa h Y G hmg0
    obtain ⟨K, KX, c⟩ := Y
    have hmg : mg ("law" : PySem.Str) = some (.ref fa) := by
      have e : (HandSHeadRun.topDef (OpenLaw.row PySem.Challenge.rw_likeslips_k04_whole_signs_told_in_small).prog 36).name = ("law" : PySem.Str) := by kernel_rfl
      rw [← e]
      exact hmg0
    obtain ⟨fd, hb, hF⟩ := Hd.facts (P := (PySem.Challenge.rw_likeslips_k04_whole_signs_told_in_small).prog) (w := w) KX G hmg c
    exact ⟨K, fd, _, KX, hb, fun H a ns hl _ hS => Lk.law_sp hS (Lw.law_holds ns hl), fun base b1 b2 => Lk.fn_cxa (hF base b1 b2)⟩
