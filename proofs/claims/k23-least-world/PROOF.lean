import PyProof.Rows.All
import Wide.All
import OpenK.AllK
import Wide.FinOn
import HandS.ForMost
import HandS.Wide
import HandS.TupAny
import HandS.IsInst
import HandS.Deep
import HandS.Zip
import HandS.Rev
import PySem.Challenge.RW_kindreach_k23_the_least_world
set_option Elab.async false
set_option linter.all false
set_option maxRecDepth 100000
namespace EV
open PyProof.Rows PySem L2 PySem.Spec

/-! ### data, owned values -/
inductive D where
  | non | bl (b : Bool) | int (i : Int) | str (s : Str)
  | tup (xs : List D) | lst (xs : List D) | dctK (kvs : List (Key × D)) | dctT (kvs : List (List Key × D)) | ins (c : Nat) (fs : List (Nat × D))
  deriving Inhabited
inductive O where
  | val (d : D) | lst (xs : List D) | dctK (kvs : List (Key × D)) | dctT (kvs : List (List Key × D))
  deriving Inhabited
def O.frz : O → D
  | .val d => d
  | .lst xs => .lst xs
  | .dctK kvs => .dctK kvs
  | .dctT kvs => .dctT kvs

abbrev Env := List (Option O)
def getS : Env → Nat → Option O
  | [], _ => none
  | x :: _, 0 => x
  | _ :: r, i + 1 => getS r i
def setS : Env → Nat → Option O → Env
  | [], _, _ => []
  | _ :: r, 0, o => o :: r
  | x :: r, i + 1, o => x :: setS r i o
def wipeS (ρ : Env) : List Nat → Env
  | [] => ρ
  | v :: vs => setS (wipeS ρ vs) v none
/-- the slots vs as they stand in ρ0 -/
def backS (ρ0 ρ : Env) : List Nat → Env
  | [] => ρ
  | v :: vs => setS (backS ρ0 ρ vs) v (getS ρ0 v)
def plainS (ρ : Env) (vs : List Nat) : Bool := vs.all fun v => match getS ρ v with
  | none => true
  | some (.val _) => true
  | _ => false

/-! ### the small operations -/
inductive Pr where
  | neg | add | sub | mul | fdiv | mod | pow | shl
  | eq | ne | lt | le | gt | ge | isN | notN | isin | notin
  | idx | fld (n : Nat) | slc (lo hi : Bool)
  | len | int | str | list | tuple | sorted | sum | all | any | min1 | max1 | min2 | max2
  | isi (ts : List Nat)
  | join | split | upper | get1 | get2 | index | replace
  deriving DecidableEq
inductive ItK where
  | plain | rng1 | rng2 | enum | zip | rev | items | vals
  deriving DecidableEq
inductive Tg where
  | one (i : Nat) | many (is : List Nat)
  deriving DecidableEq
def Tg.slots : Tg → List Nat
  | .one i => [i]
  | .many is => is

inductive E where
  | fail
  | lit (d : D) | var (i : Nat) | mv (i : Nat) | sh (i : Nat) | bw (i : Nat) | rf (i : Nat) | glob (g : Nat)
  | op (p : Pr) (es : List E) | mop (p : Pr) (o : E) (es : List E)
  | tup (es : List E) | lst (es : List E) | dct0 (t : Bool)
  | and (a b : E) | or (a b : E) | not (a : E) | ite (c a b : E)
  | cmp2 (p q : Pr) (a b c : E)
  | call (f : Nat) (es : List E) | meth (f : Nat) (o : E) (es : List E) | new (c : Nat) (es : List E)
  | pop (i : Nat) | popAt (i : Nat) (e : E)
  | comp (tg : Tg) (k : ItK) (es : List E) (cs : List E) (e : E)
  | frz (e : E)
inductive Mu where
  | app | ext | rev | ins
  deriving DecidableEq
inductive S where
  | fail
  | asg (i : Nat) (e : E) | unp (is : List Nat) (e : E)
  | setI (i : Nat) (k e : E) | mut (m : Mu) (i : Nat) (es : List E)
  | aug (i : Nat) (p : Pr) (e : E)
  | expr (e : E) | ret (e : E) | retN | pass | brk | cont
  | ite (c : E) (a b : List S) | for (tg : Tg) (k : ItK) (es : List E) (body : List S) | while (c : E) (body : List S)

/-! ### what the small operations tell -/
def truth : D → Option Bool
  | .non => some false
  | .bl b => some b
  | .int i => some (i != 0)
  | .str y => if y.length ≤ sizeLine then some ((y.length : Int) != 0) else none
  | .tup xs => some (!xs.isEmpty)
  | .lst xs => some (!xs.isEmpty)
  | _ => none

mutual
def toPy : D → Option PyData
  | .non => some .none
  | .bl b => some (.bool b)
  | .int i => some (.int i)
  | .str s => some (.str s)
  | .tup xs => (toPys xs).map .tuple
  | .lst xs => (toPys xs).map .list
  | .dctK _ => none
  | .dctT _ => none
  | .ins _ _ => none
def toPys : List D → Option (List PyData)
  | [] => some []
  | x :: xs => match toPy x, toPys xs with
    | some d, some ds => some (d :: ds)
    | _, _ => none
end

def scalD : D → Bool
  | .non | .bl _ | .int _ | .str _ => true
  | _ => false
/-- == of two scalars that the layer tells apart -/
def eqS : D → D → Option Bool
  | .non, .non => some true
  | .non, .int _ | .int _, .non | .non, .bl _ | .bl _, .non | .non, .str _ | .str _, .non => some false
  | .int i, .int j => some (decide (i = j))
  | .bl i, .bl j => some (decide (i = j))
  | .str i, .str j => some (decide (i = j))
  | .int _, .str _ | .str _, .int _ | .bl _, .str _ | .str _, .bl _ => some false
  | _, _ => none
def eqP (x y : D) : Option Bool := match toPy x, toPy y with
  | some a, some b => if SeqAt.shaped a && SeqAt.shaped b then some (PyData.eqv a b) else none
  | _, _ => none
def eqD (x y : D) : Option Bool := match eqS x y with
  | some b => some b
  | none => eqP x y

def flatD : D → Bool
  | .non | .bl _ | .int _ | .str _ => true
  | _ => false
/-- y == x of two flat things -/
def eqF : D → D → Bool
  | .non, .non => true
  | .bl a, .bl b => a == b
  | .bl a, .int b => (if a then 1 else 0) == b
  | .int a, .bl b => a == (if b then 1 else 0)
  | .int a, .int b => a == b
  | .str a, .str b => a == b
  | _, _ => false
def inF (x : D) (ys : List D) : Bool := ys.any fun y => eqF y x
def inP (x : D) (ys : List D) : Option Bool := match toPy x, toPys ys with
  | some a, some bs => if SeqAt.shaped a && PyData.canLayAll0 bs then some (bs.any fun b => PyData.eqv b a) else none
  | _, _ => none
def inL (x : D) (ys : List D) : Option Bool := if flatD x && ys.all flatD then some (inF x ys) else inP x ys

variable {κ : Type} [DecidableEq κ]
def aget (kvs : List (κ × D)) (k : κ) : Option D := (kvs.find? fun kv => decide (kv.1 = k)).map (·.2)
def aput (kvs : List (κ × D)) (k : κ) (v : D) : List (κ × D) :=
  if (kvs.any fun kv => decide (kv.1 = k)) then kvs.map fun kv => if kv.1 = k then (kv.1, v) else kv else kvs ++ [(k, v)]
def key1 : D → Option Key
  | .int i => some (.inl i)
  | .str s => some (.inr s)
  | _ => none
def keys1 : List D → Option (List Key)
  | [] => some []
  | x :: xs => match key1 x, keys1 xs with
    | some k, some ks => some (k :: ks)
    | _, _ => none
def keyT : D → Option (List Key)
  | .tup xs => keys1 xs
  | _ => none
def keyD : Key → D
  | .inl i => .int i
  | .inr s => .str s
/-- what a dict holds at a key: none where the key is none of its sort -/
def dget (d k : D) : Option (Option D) := match d with
  | .dctK kvs => (key1 k).map (aget kvs)
  | _ => none

def isTy1 : Nat → D → Bool
  | 0, .str _ => true
  | 1, .int _ => true
  | 1, .bl _ => true
  | 2, .tup _ => true
  | 3, .lst _ => true
  | 4, .bl _ => true
  | 5, .dctK _ => true
  | 5, .dctT _ => true
  | n, .ins c _ => n == c + 100
  | _, _ => false
def sign (c : Nat) : D := .str ⟨#[c]⟩
def cutL {α : Type} (xs : List α) (lo hi : Option Int) : List α := (xs.drop (HT.sIx xs.length 0 lo)).take (HT.sIx xs.length xs.length hi - HT.sIx xs.length 0 lo)
def cutD (x : D) (lo hi : Option Int) : Option O := match x with
  | .lst xs => some (.lst (cutL xs lo hi))
  | .tup xs => some (.val (.tup (cutL xs lo hi)))
  | .str z => if z.length ≤ sizeLine then some (.val (.str ⟨(cutL z.cps.toList lo hi).toArray⟩)) else none
  | _ => none
def allStr : List D → Option (List Str)
  | [] => some []
  | .str s :: r => (allStr r).map (s :: ·)
  | _ => none
def allInt : List D → Option (List Int)
  | [] => some []
  | .int s :: r => (allInt r).map (s :: ·)
  | _ => none
def allBl : List D → Option (List Bool)
  | [] => some []
  | .bl s :: r => (allBl r).map (s :: ·)
  | _ => none
def seqOf : D → Option (List D)
  | .lst xs => some xs
  | .tup xs => some xs
  | _ => none

def ob (b : Bool) : Option O := some (.val (.bl b))
def oi (i : Int) : Option O := some (.val (.int i))
def cmpI (x y : D) (f : Int → Int → Bool) (g : Str → Str → Bool) : Option O := match x, y with
  | .int i, .int j => ob (f i j)
  | .str i, .str j => ob (g i j)
  | _, _ => none
def isinD (x y : D) : Option Bool := match y with
  | .str j => match x with
    | .str ⟨⟨[c]⟩⟩ => some (decide (c ∈ j.cps.toList))
    | .str i => some (!(Builtin.Str.occurrences j i 0 j.length 1).isEmpty)
    | _ => none
  | .lst ys => inL x ys
  | .tup ys => inL x ys
  | d => (dget d x).map Option.isSome

def int2 (x y : D) (f : Int → Int → Option O) : Option O := match x, y with
  | .int i, .int j => f i j
  | _, _ => none
def addD : D → D → Option O
  | .int i, y => match y with
    | .int j => oi (i + j)
    | _ => none
  | .str i, y => match y with
    | .str j => if i.length + j.length ≤ sizeLine then some (.val (.str (i ++ j))) else none
    | _ => none
  | .lst xs, y => match y with
    | .lst ys => if xs.length + ys.length ≤ sizeLine then some (.lst (xs ++ ys)) else none
    | _ => none
  | .tup xs, y => match y with
    | .tup ys => if xs.length + ys.length ≤ sizeLine then some (.val (.tup (xs ++ ys))) else none
    | _ => none
  | _, _ => none
def isND (x y : D) (f : Bool → Bool) : Option O := match y with
  | .non => match x with
    | .non => ob (f true)
    | _ => ob (f false)
  | _ => none
def idxD : D → D → Option O
  | .lst xs, y => match y with
    | .int i => (atI xs i).map .val
    | _ => none
  | .tup xs, y => match y with
    | .int i => (atI xs i).map .val
    | _ => none
  | .str z, y => match y with
    | .int i => if z.length ≤ sizeLine then (atI z.cps.toList i).map fun c => .val (sign c) else none
    | _ => none
  | _, _ => none
def fldD (n : Nat) : D → Option O
  | .ins _ fs => (fs.lookup n).map .val
  | _ => none
def lenD : D → Option O
  | .str z => if z.length ≤ sizeLine then oi z.length else none
  | .lst xs => oi xs.length
  | .tup xs => oi xs.length
  | _ => none
def intD : D → Option O
  | .int i => oi i
  | .bl b => oi (if b then 1 else 0)
  | _ => none
def strD : D → Option O
  | .int i => if i.natAbs.log2 < 1920 then some (.val (.str (toString i))) else none
  | _ => none
def listD (x : D) : Option O := (seqOf x).map .lst
def tupleD (x : D) : Option O := (seqOf x).map fun xs => .val (.tup xs)
def lstD (x : D) (f : List D → Option O) : Option O := match x with
  | .lst xs => f xs
  | _ => none
def str1 (x : D) (f : Str → Option O) : Option O := match x with
  | .str s => f s
  | _ => none
def partD : D → Option (Option Int)
  | .int i => some (some i)
  | _ => none

def prim : Pr → List D → Option O
  | .add, [x, y] => addD x y
  | .neg, [x] => match x with
    | .int i => oi (-i)
    | _ => none
  | .sub, [x, y] => int2 x y fun i j => oi (i - j)
  | .mul, [x, y] => int2 x y fun i j => if (-(2 ^ 64) < i ∧ i < 2 ^ 64) ∨ (-(2 ^ 64) < j ∧ j < 2 ^ 64) then oi (i * j) else none
  | .fdiv, [x, y] => int2 x y fun i j => if 0 < j ∧ j < 2 ^ 64 then oi (i / j) else none
  | .mod, [x, y] => int2 x y fun i j => if 0 < j then oi (i % j) else none
  | .pow, [x, y] => int2 x y fun i j => if 0 ≤ j ∧ j ≤ 1000000 ∧ i.natAbs < 2 ^ 64 then oi (i ^ j.toNat) else none
  | .shl, [x, y] => int2 x y fun i j => if 0 ≤ j ∧ j ≤ 1000000 ∧ i.natAbs < 2 ^ 64 then oi (i * 2 ^ j.toNat) else none
  | .eq, [x, y] => (eqD x y).map fun b => .val (.bl b)
  | .ne, [x, y] => (eqD x y).map fun b => .val (.bl !b)
  | .lt, [x, y] => cmpI x y (fun i j => decide (i < j)) (fun i j => decide (i.cps.toList < j.cps.toList))
  | .le, [x, y] => cmpI x y (fun i j => decide (i ≤ j)) (fun i j => !decide (j.cps.toList < i.cps.toList))
  | .gt, [x, y] => cmpI x y (fun i j => decide (j < i)) (fun i j => decide (j.cps.toList < i.cps.toList))
  | .ge, [x, y] => cmpI x y (fun i j => decide (j ≤ i)) (fun i j => !decide (i.cps.toList < j.cps.toList))
  | .isN, [x, y] => isND x y id
  | .notN, [x, y] => isND x y not
  | .isin, [x, y] => (isinD x y).map fun b => .val (.bl b)
  | .notin, [x, y] => (isinD x y).map fun b => .val (.bl !b)
  | .idx, [x, y] => idxD x y
  | .fld n, [x] => fldD n x
  | .slc true true, [x, y, z] => (partD y).bind fun i => (partD z).bind fun j => cutD x i j
  | .slc true false, [x, y] => (partD y).bind fun i => cutD x i none
  | .slc false true, [x, z] => (partD z).bind fun j => cutD x none j
  | .slc false false, [x] => cutD x none none
  | .len, [x] => lenD x
  | .int, [x] => intD x
  | .str, [x] => strD x
  | .list, [x] => listD x
  | .tuple, [x] => tupleD x
  | .sum, [x] => lstD x fun xs => (allInt xs).bind fun ns => oi ns.sum
  | .all, [x] => lstD x fun xs => (allBl xs).bind fun bs => ob (bs.all id)
  | .any, [x] => lstD x fun xs => (allBl xs).bind fun bs => ob (bs.any id)
  | .min2, [x, y] => int2 x y fun i j => oi (if j < i then j else i)
  | .max2, [x, y] => int2 x y fun i j => oi (if j > i then j else i)
  | .isi ts, [x] => ob (ts.any fun t => isTy1 t x)
  | .join, [a, x] => str1 a fun a => (seqOf x).bind fun xs => (allStr xs).bind fun ys =>
      if (ys.map (·.length)).sum + ys.length * a.length ≤ 16777216 then some (.val (.str (Txt.join a ys))) else none
  | .split, [a, b] => str1 a fun a => str1 b fun b => if (b.length == 0) = false ∧ a.length + 2 ≤ sizeLine then some (.lst ((Txt.split a b).map .str)) else none
  | _, _ => none

/-- what a method's receiver is -/
def rcv : Pr → D → Bool
  | .join, .str _ => true
  | .split, .str _ => true
  | .upper, .str _ => true
  | .get1, .dctK _ => true
  | .get2, .dctK _ => true
  | .index, .lst _ => true
  | _, _ => false
def rngL (lo : Int) (n : Nat) : List D := (List.range n).map fun (k : Nat) => .int (lo + (k : Int))
def enumL : Nat → List D → List D
  | _, [] => []
  | k, x :: xs => .tup [.int (k : Int), x] :: enumL (k + 1) xs
def zipL : List D → List D → List D
  | x :: xs, y :: ys => .tup [x, y] :: zipL xs ys
  | _, _ => []
def iterD : ItK → List D → Option (List D)
  | .plain, [.lst xs] => some xs
  | .plain, [.tup xs] => some xs
  | .plain, [.str z] => some (z.cps.toList.map sign)
  | .rng1, [.int n] => if -(2 ^ 62) ≤ n ∧ n < 2 ^ 62 then some (rngL 0 n.toNat) else none
  | .rng2, [.int i, .int j] => if -(2 ^ 62) ≤ i ∧ i < 2 ^ 62 ∧ -(2 ^ 62) ≤ j ∧ j < 2 ^ 62 then some (rngL i (j - i).toNat) else none
  | .enum, [.lst xs] => some (enumL 0 xs)
  | .zip, [.lst xs, .lst ys] => some (zipL xs ys)
  | .zip, [.tup xs, .tup ys] => some (zipL xs ys)
  | .rev, [.lst xs] => some xs.reverse
  | .rev, [.tup xs] => some xs.reverse
  | _, _ => none

/-! ### the run -/
def bindMany : List Nat → List D → Env → Option Env
  | [], [], ρ => some ρ
  | i :: is, d :: ds, ρ => bindMany is ds (setS ρ i (some (.val d)))
  | _, _, _ => none
def bindT : Tg → D → Env → Option Env
  | .one i, d, ρ => some (setS ρ i (some (.val d)))
  | .many is, .tup ds, ρ => bindMany is ds ρ
  | _, _, _ => none
def compGo (step : D → Env → Option (Option D × Env)) : List D → Env → Option (List D × Env)
  | [], ρ => some ([], ρ)
  | x :: xs, ρ => match step x ρ with
    | none => none
    | some (o, ρ') => match compGo step xs ρ' with
      | none => none
      | some (ds, ρ'') => some (o.toList ++ ds, ρ'')
abbrev CallF := Nat → List O → Option (O × List (Option O))
/-- the arguments that are handed by reference are taken from their slots -/
def takeA : List E → List D → Env → Option (List O × Env)
  | [], [], ρ => some ([], ρ)
  | .rf i :: es, _ :: ds, ρ => match getS ρ i with
    | none => none
    | some o => match takeA es ds (setS ρ i none) with
      | none => none
      | some (os, ρ') => some (o :: os, ρ')
  | _ :: es, d :: ds, ρ => match takeA es ds ρ with
    | none => none
    | some (os, ρ') => some (.val d :: os, ρ')
  | _, _, _ => none
def giveA : List E → List (Option O) → Env → Env
  | .rf i :: es, o :: os, ρ => giveA es os (setS ρ i o)
  | _ :: es, _ :: os, ρ => giveA es os ρ
  | _, _, ρ => ρ
def chk {α : Type} (b : Bool) (x : α) : Option α := if b then some x else none

/-- in a test's place the value's truth -/
def post (m : Bool) (o : O) (ρ : Env) : Option (O × Env) := match m with
  | false => some (o, ρ)
  | true => match truth o.frz with
    | some b => some (.val (.bl b), ρ)
    | none => none

section
variable (G : List D) (CL : List (List Nat)) (C : CallF)
mutual
/-- m: a test's place -/
def ev : E → Bool → Env → Option (O × Env)
  | .fail, _, _ => none
  | .lit d, m, ρ => post m (.val d) ρ
  | .var i, m, ρ => match getS ρ i with
    | some (.val d) => post m (.val d) ρ
    | _ => none
  | .mv i, m, ρ => match getS ρ i with
    | some o => post m o (setS ρ i none)
    | none => none
  | .sh i, m, ρ => match getS ρ i with
    | some o => post m (.val o.frz) (setS ρ i (some (.val o.frz)))
    | none => none
  | .bw i, m, ρ => match m with
    | true => match getS ρ i with
      | some o => post true o ρ
      | none => none
    | false => match getS ρ i with
      | some (.val d) => some (.val d, ρ)
      | _ => none
  | .rf _, _, _ => none
  | .glob g, m, ρ => match G[g]? with
    | some d => post m (.val d) ρ
    | none => none
  | .op p es, m, ρ => match evO es ρ with
    | none => none
    | some (ds, ρ') => match prim p ds with
      | none => none
      | some o => post m o ρ'
  | .mop p o es, m, ρ => match o with
    | .bw i => match getS ρ i with
      | none => none
      | some o0 => match rcv p o0.frz with
        | false => none
        | true => match evO es ρ with
          | none => none
          | some (ds, ρ') => match getS ρ' i with
            | none => none
            | some o1 => match prim p (o1.frz :: ds) with
              | none => none
              | some r => post m r ρ'
    | _ => match ev o false ρ with
      | none => none
      | some (o0, ρ1) => match rcv p o0.frz with
        | false => none
        | true => match evO es ρ1 with
          | none => none
          | some (ds, ρ') => match prim p (o0.frz :: ds) with
            | none => none
            | some r => post m r ρ'
  | .tup es, m, ρ => match evV es ρ with
    | none => none
    | some (ds, ρ') => if ds.length ≤ sizeLine then post m (.val (.tup ds)) ρ' else none
  | .lst es, m, ρ => match evV es ρ with
    | none => none
    | some (ds, ρ') => if ds.length ≤ sizeLine then post m (.lst ds) ρ' else none
  | .dct0 t, m, ρ => post m (if t then .dctT [] else .dctK []) ρ
  | .and a b, m, ρ => match ev a m ρ with
    | none => none
    | some (o, ρ') => match o.frz with
      | .bl true => ev b m ρ'
      | .bl false => some (.val (.bl false), ρ')
      | _ => none
  | .or a b, m, ρ => match ev a m ρ with
    | none => none
    | some (o, ρ') => match o.frz with
      | .bl true => some (.val (.bl true), ρ')
      | .bl false => ev b m ρ'
      | _ => none
  | .not a, m, ρ => match ev a m ρ with
    | none => none
    | some (o, ρ') => match o.frz with
      | .bl b => some (.val (.bl !b), ρ')
      | _ => none
  | .ite c a b, m, ρ => match m with
    | true => none
    | false => match ev c true ρ with
      | none => none
      | some (o, ρ') => match o.frz with
        | .bl true => ev a false ρ'
        | .bl false => ev b false ρ'
        | _ => none
  | .cmp2 p q a b c, m, ρ => match ev a false ρ with
    | none => none
    | some (x, ρ1) => match ev b false ρ1 with
      | none => none
      | some (y, ρ2) => match prim p [x.frz, y.frz] with
        | some (.val (.bl true)) => match ev c false ρ2 with
          | none => none
          | some (z, ρ3) => match prim q [y.frz, z.frz] with
            | some (.val (.bl b)) => some (.val (.bl b), ρ3)
            | _ => none
        | some (.val (.bl false)) => some (.val (.bl false), ρ2)
        | _ => none
  | .call f es, m, ρ => match evA es ρ with
    | none => none
    | some (ds, ρ1) => match takeA es ds ρ1 with
      | none => none
      | some (os, ρ2) => match C f os with
        | none => none
        | some (r, ps) => post m r (giveA es ps ρ2)
  | .meth f o es, m, ρ => match ev o false ρ with
    | some (.val (.ins c fs), ρ0) => match evA es ρ0 with
      | none => none
      | some (ds, ρ1) => match takeA es ds ρ1 with
        | none => none
        | some (os, ρ2) => match C f (.val (.ins c fs) :: os) with
          | none => none
          | some (r, ps) => post m r (giveA es ps.tail ρ2)
    | _ => none
  | .new c es, m, ρ => match evV es ρ with
    | none => none
    | some (ds, ρ') => match CL[c]? with
      | none => none
      | some ns => if m = false ∧ ns.length = ds.length then some (.val (.ins c (ns.zip ds)), ρ') else none
  | .pop i, m, ρ => match getS ρ i with
    | some (.lst xs) => match xs.getLast? with
      | some d => post m (.val d) (setS ρ i (some (.lst xs.dropLast)))
      | none => none
    | _ => none
  | .popAt i e, m, ρ => match getS ρ i with
    | some (.lst _) => match ev e false ρ with
      | none => none
      | some (o, ρ') => match o.frz, getS ρ' i with
        | .int k, some (.lst xs) => match ixN xs.length k with
          | some j => match xs[j]? with
            | some d => if -(2 ^ 63) ≤ k ∧ k < 2 ^ 63 then post m (.val d) (setS ρ' i (some (.lst (xs.eraseIdx j)))) else none
            | none => none
          | none => none
        | _, _ => none
    | _ => none
  | .comp tg k es cs e, m, ρ => match evV es ρ with
    | none => none
    | some (ds, ρ1) => match iterD k ds with
      | none => none
      | some xs => match plainS ρ1 tg.slots with
        | false => none
        | true => match compGo (fun x ρ2 => match bindT tg x ρ2 with
            | none => none
            | some ρ3 => match evC cs ρ3 with
              | none => none
              | some (false, ρ4) => some (none, wipeS ρ4 tg.slots)
              | some (true, ρ4) => match ev e false ρ4 with
                | none => none
                | some (o, ρ5) => some (some o.frz, wipeS ρ5 tg.slots)) xs (wipeS ρ1 tg.slots) with
          | none => none
          | some (ds, ρ6) => if ds.length ≤ sizeLine then post m (.lst ds) (backS ρ1 ρ6 tg.slots) else none
  | .frz e, m, ρ => match ev e false ρ with
    | none => none
    | some (o, ρ') => post m (.val o.frz) ρ'
/-- operands: what is looked at in a slot is looked at behind all others -/
def evO : List E → Env → Option (List D × Env)
  | [], ρ => some ([], ρ)
  | e :: es, ρ => match e with
    | .bw i => match getS ρ i with
      | none => none
      | some _ => match evO es ρ with
        | none => none
        | some (ds, ρ') => match getS ρ' i with
          | none => none
          | some o => some (o.frz :: ds, ρ')
    | _ => match ev e false ρ with
      | none => none
      | some (o, ρ1) => match evO es ρ1 with
        | none => none
        | some (ds, ρ') => some (o.frz :: ds, ρ')
/-- values -/
def evV : List E → Env → Option (List D × Env)
  | [], ρ => some ([], ρ)
  | e :: es, ρ => match ev e false ρ with
    | none => none
    | some (o, ρ1) => match evV es ρ1 with
      | none => none
      | some (ds, ρ') => some (o.frz :: ds, ρ')
/-- arguments: by reference none yet -/
def evA : List E → Env → Option (List D × Env)
  | [], ρ => some ([], ρ)
  | e :: es, ρ => match e with
    | .rf i => match getS ρ i with
      | none => none
      | some _ => match evA es ρ with
        | none => none
        | some (ds, ρ') => some (.non :: ds, ρ')
    | _ => match ev e false ρ with
      | none => none
      | some (o, ρ1) => match evA es ρ1 with
        | none => none
        | some (ds, ρ') => some (o.frz :: ds, ρ')
/-- a comprehension's tests: none or one -/
def evC : List E → Env → Option (Bool × Env)
  | [], ρ => some (true, ρ)
  | c :: cs, ρ => match ev c true ρ with
    | some (.val (.bl b), ρ') => match cs with
      | [] => some (b, ρ')
      | _ => none
    | _ => none
end
end

/-! ### statements -/
inductive Flow where
  | nx | rt (o : O) | bk | ct
def forGo (bind : D → Env → Option Env) (body : Env → Option (Flow × Env)) : List D → Env → Option (Flow × Env)
  | [], ρ => some (.nx, ρ)
  | x :: xs, ρ => match bind x ρ with
    | none => none
    | some ρ1 => match body ρ1 with
      | none => none
      | some (.nx, ρ2) => forGo bind body xs ρ2
      | some (.ct, ρ2) => forGo bind body xs ρ2
      | some (.bk, ρ2) => some (.nx, ρ2)
      | some (.rt o, ρ2) => some (.rt o, ρ2)
def whileGo (test : Env → Option (O × Env)) (body : Env → Option (Flow × Env)) : Nat → Env → Option (Flow × Env)
  | 0, _ => none
  | n + 1, ρ => match test ρ with
    | some (.val (.bl true), ρ1) => match body ρ1 with
      | none => none
      | some (.nx, ρ2) => whileGo test body n ρ2
      | some (.ct, ρ2) => whileGo test body n ρ2
      | some (.bk, ρ2) => some (.nx, ρ2)
      | some (.rt o, ρ2) => some (.rt o, ρ2)
    | some (.val (.bl false), ρ1) => some (.nx, ρ1)
    | _ => none
/-- a list in a slot changed -/
def mutO (m : Mu) (o : O) (ds : List D) : Option O := match o, m, ds with
  | .lst xs, .app, [d] => if xs.length < sizeLine then some (.lst (xs ++ [d])) else none
  | .lst xs, .rev, [] => some (.lst xs.reverse)
  | _, _, _ => none
def setO (o : O) (k d : D) : Option O := match o with
  | .lst xs => match k with
    | .int i => (ixN xs.length i).map fun j => .lst (xs.set j d)
    | _ => none
  | .dctK kvs => if kvs.length < sizeLine then (key1 k).map fun k => .dctK (aput kvs k d) else none
  | _ => none

section
variable (G : List D) (CL : List (List Nat)) (W : Nat) (C : CallF)
mutual
def evS : S → Env → Option (Flow × Env)
  | .fail, _ => none
  | .asg i e, ρ => match ev G CL C e false ρ with
    | none => none
    | some (o, ρ') => some (.nx, setS ρ' i (some o))
  | .unp is e, ρ => match ev G CL C e false ρ with
    | none => none
    | some (o, ρ') => match bindT (.many is) o.frz ρ' with
      | none => none
      | some ρ'' => some (.nx, ρ'')
  | .setI i k e, ρ => match ev G CL C e false ρ with
    | none => none
    | some (d, ρ1) => match getS ρ1 i with
      | none => none
      | some _ => match ev G CL C k false ρ1 with
        | none => none
        | some (kd, ρ2) => match getS ρ2 i with
          | none => none
          | some o => match setO o kd.frz d.frz with
            | none => none
            | some o' => some (.nx, setS ρ2 i (some o'))
  | .mut m i es, ρ => match getS ρ i with
    | some (.lst _) => match evV G CL C es ρ with
      | none => none
      | some (ds, ρ') => match getS ρ' i with
        | none => none
        | some o => match mutO m o ds with
          | none => none
          | some o' => some (.nx, setS ρ' i (some o'))
    | _ => none
  | .aug i p e, ρ => match getS ρ i with
    | some (.val (.int a)) => match ev G CL C e false ρ with
      | none => none
      | some (y, ρ') => match y.frz with
        | .int b => match prim p [.int a, .int b] with
          | some (.val (.int r)) => some (.nx, setS ρ' i (some (.val (.int r))))
          | _ => none
        | _ => none
    | _ => none
  | .expr e, ρ => match ev G CL C e false ρ with
    | none => none
    | some (_, ρ') => some (.nx, ρ')
  | .ret e, ρ => match ev G CL C e false ρ with
    | none => none
    | some (o, ρ') => some (.rt o, ρ')
  | .retN, ρ => some (.rt (.val .non), ρ)
  | .pass, ρ => some (.nx, ρ)
  | .brk, ρ => some (.bk, ρ)
  | .cont, ρ => some (.ct, ρ)
  | .ite c a b, ρ => match ev G CL C c true ρ with
    | some (.val (.bl true), ρ') => evSs a ρ'
    | some (.val (.bl false), ρ') => evSs b ρ'
    | _ => none
  | .for tg k es body, ρ => match evV G CL C es ρ with
    | none => none
    | some (ds, ρ1) => match iterD k ds with
      | none => none
      | some xs => forGo (bindT tg) (evSs body) xs ρ1
  | .while c body, ρ => whileGo (ev G CL C c true) (evSs body) W ρ
def evSs : List S → Env → Option (Flow × Env)
  | [], ρ => some (.nx, ρ)
  | s :: ss, ρ => match evS s ρ with
    | none => none
    | some (.nx, ρ') => evSs ss ρ'
    | some (f, ρ') => some (f, ρ')
end
end
structure Fn where
  np : Nat
  ns : Nat
  cl : Option Nat
  body : List S
structure Tab where
  G : List D
  CL : List (List Nat)
  W : Nat
  fns : List Fn
def startS (ns : Nat) (os : List O) : Env := os.map some ++ List.replicate (ns - os.length) none
def selfOk : Option Nat → List O → Bool
  | none, _ => true
  | some c, .val (.ins c' _) :: _ => c' == c
  | _, _ => false
def headS : Env → Nat → Env
  | _, 0 => []
  | [], n + 1 => none :: headS [] n
  | x :: r, n + 1 => x :: headS r n
def evF (T : Tab) : Nat → CallF
  | 0, _, _ => none
  | n + 1, f, os => match T.fns[f]? with
    | none => none
    | some F => match (os.length == F.np) && selfOk F.cl os with
      | true => match evSs T.G T.CL T.W (evF T n) F.body (startS F.ns os) with
        | some (.rt o, ρ) => some (o, headS ρ F.np)
        | some (.nx, ρ) => some (.val .non, headS ρ F.np)
        | _ => none
      | false => none
end EV

namespace EV
open PyProof.Rows PySem L2 PySem.Spec

structure Mt where
  K : PySem.W.Frag
  cl : Nat → Addr
  fn : Nat → Str
  nc : Nat

section
variable (M : Mt) (Z : Hp)
mutual
/-- a frozen thing: d stands at v, in what is never written again -/
def Rp : D → V → Prop
  | .non, v => v = .non
  | .bl b, v => v = .bl b
  | .int i, v => v = .int i
  | .str s, v => v = .str s
  | .tup ds, v => ∃ a xs, v = .ref a ∧ SqT M.K Z a xs ∧ RpA ds xs
  | .lst ds, v => ∃ a xs, v = .ref a ∧ SqL M.K Z a xs ∧ RpA ds xs
  | .dctK ds, v => ∃ a xs, v = .ref a ∧ Rd Z a (.dK xs) ∧ RpK ds xs
  | .dctT ds, v => ∃ a xs, v = .ref a ∧ Z a = some (.dT xs) ∧ RpT ds xs
  | .ins c ds, v => ∃ a dx xs, v = .ref a ∧ Z a = some (.ins (M.cl c) dx xs) ∧ c < M.nc ∧ RpF ds xs
def RpA : List D → List V → Prop
  | [], xs => xs = []
  | d :: ds, xs => ∃ v vs, xs = v :: vs ∧ Rp d v ∧ RpA ds vs
def RpK : List (Key × D) → List (Key × V) → Prop
  | [], xs => xs = []
  | (k, d) :: ds, xs => ∃ v vs, xs = (k, v) :: vs ∧ Rp d v ∧ RpK ds vs
def RpT : List (List Key × D) → List (List Key × V) → Prop
  | [], xs => xs = []
  | (k, d) :: ds, xs => ∃ v vs, xs = (k, v) :: vs ∧ Rp d v ∧ RpT ds vs
def RpF : List (Nat × D) → List (Str × V) → Prop
  | [], xs => xs = []
  | (k, d) :: ds, xs => ∃ v vs, xs = (M.fn k, v) :: vs ∧ Rp d v ∧ RpF ds vs
end
end

/-- all that Z holds H holds -/
def Sub (Z H : Hp) : Prop := ∀ a o, Z a = some o → H a = some o
theorem Sub.refl (Z : Hp) : Sub Z Z := fun _ _ h => h
theorem Sub.trans {Z H I : Hp} (a : Sub Z H) (b : Sub H I) : Sub Z I := fun c o h => b c o (a c o h)
theorem Sub.rd {Z H : Hp} {a : Addr} {u : HO} (s : Sub Z H) (h : Rd Z a u) : Rd H a u := by
  rcases h with h | ⟨o, h⟩
  · exact .inl (s _ _ h)
  · exact .inr ⟨o, s _ _ h⟩
theorem Sub.sl {K : PySem.W.Frag} {Z H : Hp} {a : Addr} {xs : List V} (s : Sub Z H) (h : SqL K Z a xs) : SqL K H a xs := by
  rcases h with h | h
  · exact .inl (s.rd h)
  · exact .inr h
theorem Sub.st {K : PySem.W.Frag} {Z H : Hp} {a : Addr} {xs : List V} (s : Sub Z H) (h : SqT K Z a xs) : SqT K H a xs := by
  rcases h with h | h
  · exact .inl (s.rd h)
  · exact .inr h
section
variable {M : Mt} {Z Z' : Hp}
mutual
theorem Rp.mono (s : Sub Z Z') : ∀ (d : D) (v : V), Rp M Z d v → Rp M Z' d v
  | .non, _, h => h
  | .bl _, _, h => h
  | .int _, _, h => h
  | .str _, _, h => h
  | .tup ds, v, h => by
    obtain ⟨a, xs, e, h1, h2⟩ := h
    exact ⟨a, xs, e, s.st h1, RpA.mono s ds xs h2⟩
  | .lst ds, v, h => by
    obtain ⟨a, xs, e, h1, h2⟩ := h
    exact ⟨a, xs, e, s.sl h1, RpA.mono s ds xs h2⟩
  | .dctK ds, v, h => by
    obtain ⟨a, xs, e, h1, h2⟩ := h
    exact ⟨a, xs, e, s.rd h1, RpK.mono s ds xs h2⟩
  | .dctT ds, v, h => by
    obtain ⟨a, xs, e, h1, h2⟩ := h
    exact ⟨a, xs, e, s _ _ h1, RpT.mono s ds xs h2⟩
  | .ins c ds, v, h => by
    obtain ⟨a, dx, xs, e, h1, h0, h2⟩ := h
    exact ⟨a, dx, xs, e, s _ _ h1, h0, RpF.mono s ds xs h2⟩
theorem RpA.mono (s : Sub Z Z') : ∀ (ds : List D) (xs : List V), RpA M Z ds xs → RpA M Z' ds xs
  | [], _, h => h
  | d :: ds, xs, h => by
    obtain ⟨v, vs, e, h1, h2⟩ := h
    exact ⟨v, vs, e, Rp.mono s d v h1, RpA.mono s ds vs h2⟩
theorem RpK.mono (s : Sub Z Z') : ∀ (ds : List (Key × D)) (xs : List (Key × V)), RpK M Z ds xs → RpK M Z' ds xs
  | [], _, h => h
  | (k, d) :: ds, xs, h => by
    obtain ⟨v, vs, e, h1, h2⟩ := h
    exact ⟨v, vs, e, Rp.mono s d v h1, RpK.mono s ds vs h2⟩
theorem RpT.mono (s : Sub Z Z') : ∀ (ds : List (List Key × D)) (xs : List (List Key × V)), RpT M Z ds xs → RpT M Z' ds xs
  | [], _, h => h
  | (k, d) :: ds, xs, h => by
    obtain ⟨v, vs, e, h1, h2⟩ := h
    exact ⟨v, vs, e, Rp.mono s d v h1, RpT.mono s ds vs h2⟩
theorem RpF.mono (s : Sub Z Z') : ∀ (ds : List (Nat × D)) (xs : List (Str × V)), RpF M Z ds xs → RpF M Z' ds xs
  | [], _, h => h
  | (k, d) :: ds, xs, h => by
    obtain ⟨v, vs, e, h1, h2⟩ := h
    exact ⟨v, vs, e, Rp.mono s d v h1, RpF.mono s ds vs h2⟩
end
theorem RpA.length : ∀ {ds : List D} {xs : List V}, RpA M Z ds xs → xs.length = ds.length
  | [], _, h => by cases h; rfl
  | d :: ds, _, h => by
    obtain ⟨v, vs, rfl, h1, h2⟩ := h
    simp [RpA.length h2]
theorem RpA.get : ∀ {ds : List D} {xs : List V}, RpA M Z ds xs → ∀ {i : Nat} {d : D}, ds[i]? = some d → ∃ v, xs[i]? = some v ∧ Rp M Z d v
  | [], _, _, i, d, e => by simp at e
  | x :: ds, _, h, 0, d, e => by
    obtain ⟨v, vs, rfl, h1, h2⟩ := h
    simp at e; subst e
    exact ⟨v, rfl, h1⟩
  | x :: ds, _, h, i + 1, d, e => by
    obtain ⟨v, vs, rfl, h1, h2⟩ := h
    simp at e
    simpa using RpA.get h2 e
theorem RpA.append : ∀ {ds es : List D} {xs ys : List V}, RpA M Z ds xs → RpA M Z es ys → RpA M Z (ds ++ es) (xs ++ ys)
  | [], _, _, _, h, h' => by cases h; exact h'
  | d :: ds, _, _, _, h, h' => by
    obtain ⟨v, vs, rfl, h1, h2⟩ := h
    exact ⟨v, _, rfl, h1, RpA.append h2 h'⟩
theorem RpA.snoc {ds : List D} {xs : List V} {d : D} {v : V} (h : RpA M Z ds xs) (h1 : Rp M Z d v) : RpA M Z (ds ++ [d]) (xs ++ [v]) :=
  h.append ⟨v, [], rfl, h1, rfl⟩
theorem RpA.take : ∀ {ds : List D} {xs : List V} (n : Nat), RpA M Z ds xs → RpA M Z (ds.take n) (xs.take n)
  | _, _, 0, _ => by rw [List.take_zero, List.take_zero]; exact rfl
  | [], _, n + 1, h => by cases h; simp [RpA]
  | d :: ds, _, n + 1, h => by
    obtain ⟨v, vs, rfl, h1, h2⟩ := h
    exact ⟨v, _, rfl, h1, RpA.take n h2⟩
theorem RpA.drop : ∀ {ds : List D} {xs : List V} (n : Nat), RpA M Z ds xs → RpA M Z (ds.drop n) (xs.drop n)
  | _, _, 0, h => h
  | [], _, n + 1, h => by cases h; simp [RpA]
  | d :: ds, _, n + 1, h => by
    obtain ⟨v, vs, rfl, h1, h2⟩ := h
    exact RpA.drop n h2
theorem RpA.set : ∀ {ds : List D} {xs : List V} (i : Nat) {d : D} {v : V}, RpA M Z ds xs → Rp M Z d v → RpA M Z (ds.set i d) (xs.set i v)
  | [], _, _, _, _, h, _ => by cases h; simp [RpA]
  | x :: ds, _, 0, d, v, h, hd => by
    obtain ⟨v', vs, rfl, h1, h2⟩ := h
    exact ⟨v, vs, rfl, hd, h2⟩
  | x :: ds, _, i + 1, d, v, h, hd => by
    obtain ⟨v', vs, rfl, h1, h2⟩ := h
    exact ⟨v', _, rfl, h1, RpA.set i h2 hd⟩
theorem RpA.rev : ∀ {ds : List D} {xs : List V}, RpA M Z ds xs → RpA M Z ds.reverse xs.reverse
  | [], _, h => by cases h; simp [RpA]
  | d :: ds, _, h => by
    obtain ⟨v, vs, rfl, h1, h2⟩ := h
    rw [List.reverse_cons, List.reverse_cons]
    exact RpA.snoc (RpA.rev h2) h1
theorem RpA.dropLast : ∀ {ds : List D} {xs : List V}, RpA M Z ds xs → RpA M Z ds.dropLast xs.dropLast := fun {ds xs} h => by
  rw [List.dropLast_eq_take, List.dropLast_eq_take, h.length]
  exact h.take _
theorem RpA.eraseIdx : ∀ {ds : List D} {xs : List V} (i : Nat), RpA M Z ds xs → RpA M Z (ds.eraseIdx i) (xs.eraseIdx i)
  | [], _, _, h => by cases h; simp [RpA]
  | x :: ds, _, 0, h => by
    obtain ⟨v', vs, rfl, h1, h2⟩ := h
    exact h2
  | x :: ds, _, i + 1, h => by
    obtain ⟨v', vs, rfl, h1, h2⟩ := h
    exact ⟨v', _, rfl, h1, RpA.eraseIdx i h2⟩
end

/-! ### slots -/
theorem getS_lt : ∀ {ρ : Env} {i : Nat} {o : O}, getS ρ i = some o → i < ρ.length
  | [], _, _, h => by cases h
  | _ :: _, 0, _, _ => by simp
  | _ :: r, i + 1, o, h => by
    have := getS_lt (ρ := r) (i := i) h
    simp; omega
theorem setS_length : ∀ (ρ : Env) (i : Nat) (o : Option O), (setS ρ i o).length = ρ.length
  | [], _, _ => rfl
  | _ :: _, 0, _ => rfl
  | _ :: r, i + 1, o => by simp [setS, setS_length r i o]
theorem getS_set : ∀ (ρ : Env) (i j : Nat) (o : Option O), getS (setS ρ i o) j = if j = i then (if i < ρ.length then o else none) else getS ρ j
  | [], i, j, o => by
    simp [setS, getS]
  | x :: r, 0, 0, o => by simp [setS, getS]
  | x :: r, 0, j + 1, o => by simp [setS, getS]
  | x :: r, i + 1, 0, o => by simp [setS, getS]
  | x :: r, i + 1, j + 1, o => by
    simp only [setS, getS, getS_set r i j o, List.length_cons]
    by_cases h : j = i
    · subst h; simp
    · rw [if_neg h, if_neg (by omega)]
theorem getS_set_ne {ρ : Env} {i j : Nat} {o : Option O} (h : j ≠ i) : getS (setS ρ i o) j = getS ρ j := by rw [getS_set, if_neg h]
theorem getS_set_eq {ρ : Env} {i : Nat} {o : Option O} (h : i < ρ.length) : getS (setS ρ i o) i = o := by rw [getS_set, if_pos rfl, if_pos h]
theorem getS_set_some {ρ : Env} {i j : Nat} {o : Option O} {x : O} (h : getS (setS ρ i o) j = some x) : (j = i ∧ o = some x) ∨ (j ≠ i ∧ getS ρ j = some x) := by
  rw [getS_set] at h
  by_cases e : j = i
  · rw [if_pos e] at h
    split at h
    · exact .inl ⟨e, h⟩
    · cases h
  · rw [if_neg e] at h
    exact .inr ⟨e, h⟩
theorem wipeS_length (ρ : Env) : ∀ vs, (wipeS ρ vs).length = ρ.length
  | [] => rfl
  | v :: vs => by rw [wipeS, setS_length, wipeS_length ρ vs]
theorem wipeS_some {ρ : Env} {i : Nat} {o : O} : ∀ {vs : List Nat}, getS (wipeS ρ vs) i = some o → getS ρ i = some o ∧ i ∉ vs
  | [], h => ⟨h, by simp⟩
  | v :: vs, h => by
    rw [wipeS] at h
    rcases getS_set_some h with ⟨_, z⟩ | ⟨ne, h⟩
    · cases z
    · obtain ⟨h1, h2⟩ := wipeS_some h
      exact ⟨h1, by simp only [List.mem_cons, not_or]; exact ⟨ne, h2⟩⟩
theorem wipeS_of {ρ : Env} {i : Nat} {o : O} : ∀ {vs : List Nat}, getS ρ i = some o → i ∉ vs → getS (wipeS ρ vs) i = some o
  | [], h, _ => h
  | v :: vs, h, hn => by
    simp only [List.mem_cons, not_or] at hn
    rw [wipeS, getS_set_ne hn.1]
    exact wipeS_of h hn.2
theorem backS_length (ρ0 ρ : Env) : ∀ vs, (backS ρ0 ρ vs).length = ρ.length
  | [] => rfl
  | v :: vs => by rw [backS, setS_length, backS_length ρ0 ρ vs]
theorem backS_some {ρ0 ρ : Env} {i : Nat} {o : O} : ∀ {vs : List Nat}, getS (backS ρ0 ρ vs) i = some o → (i ∈ vs ∧ getS ρ0 i = some o) ∨ (i ∉ vs ∧ getS ρ i = some o)
  | [], h => .inr ⟨by simp, h⟩
  | v :: vs, h => by
    rw [backS] at h
    rcases getS_set_some h with ⟨e, z⟩ | ⟨ne, h⟩
    · subst e; exact .inl ⟨by simp, z⟩
    · rcases backS_some h with ⟨h1, h2⟩ | ⟨h1, h2⟩
      · exact .inl ⟨by simp [h1], h2⟩
      · exact .inr ⟨by simp [ne, h1], h2⟩

/-! ### owned things -/
section
variable (M : Mt) (Z H : Hp)
/-- o stands at v; f: the addresses of its own -/
def RpO : O → V → List Addr → Prop
  | .val d, v, f => f = [] ∧ Rp M Z d v
  | .lst ds, v, f => ∃ a xs, v = .ref a ∧ f = [a] ∧ H a = some (.lst xs) ∧ RpA M Z ds xs
  | .dctK ds, v, f => ∃ a xs, v = .ref a ∧ f = [a] ∧ H a = some (.dK xs) ∧ RpK M Z ds xs
  | .dctT ds, v, f => ∃ a xs, v = .ref a ∧ f = [a] ∧ H a = some (.dT xs) ∧ RpT M Z ds xs
/-- what is looked at: frozen or not -/
def RpW (d : D) (v : V) : Prop := ∃ o f, RpO M Z H o v f ∧ o.frz = d
def RpWs : List D → List V → Prop
  | [], xs => xs = []
  | d :: ds, xs => ∃ v vs, xs = v :: vs ∧ RpW M Z H d v ∧ RpWs ds vs
end
def Own (ρ : Env) (φ : Nat → List Addr) (a : Addr) : Prop := ∃ i o, getS ρ i = some o ∧ a ∈ φ i
structure EOk (M : Mt) (Z H : Hp) (σ : List (Option V)) (ρ : Env) (φ : Nat → List Addr) : Prop where
  sub : Sub Z H
  len : σ.length = ρ.length
  hold : ∀ i o, getS ρ i = some o → ∃ v, σ[i]? = some (some v) ∧ RpO M Z H o v (φ i)
  out : ∀ a, Own ρ φ a → Z a = none
  dis : ∀ i j o u a, getS ρ i = some o → getS ρ j = some u → a ∈ φ i → a ∈ φ j → i = j
/-- a step: P what may be written, R what is owned behind it -/
structure Stp (Z H : Hp) (P : Addr → Prop) (Z' H' : Hp) (R : Addr → Prop) : Prop where
  zz : Sub Z Z'
  ch : ∀ a o, H a = some o → ¬ P a → H' a = some o
  al : ∀ a, H a ≠ none → H' a ≠ none
  zn : ∀ a, Z' a ≠ none → Z a ≠ none ∨ P a ∨ H a = none
  ow : ∀ a, R a → P a ∨ H a = none
section
variable {M : Mt} {Z H Z' H' Z2 H2 : Hp} {σ : List (Option V)} {ρ ρ' : Env} {φ φ' : Nat → List Addr} {P R T : Addr → Prop}
theorem Stp.refl : Stp Z H P Z H P := ⟨.refl _, fun _ _ h _ => h, fun _ h => h, fun _ h => .inl h, fun _ h => .inl h⟩
theorem Stp.trans (a : Stp Z H P Z' H' R) (b : Stp Z' H' R Z2 H2 T) : Stp Z H P Z2 H2 T where
  zz := a.zz.trans b.zz
  ch := fun x o h hp => b.ch x o (a.ch x o h hp) fun r => (a.ow x r).elim hp fun e => by rw [h] at e; cases e
  al := fun x h => b.al x (a.al x h)
  zn := fun x h => by
    rcases b.zn x h with h | h | h
    · exact a.zn x h
    · exact .inr (a.ow x h)
    · refine .inr (.inr ?_)
      by_cases e : H x = none
      · exact e
      · exact absurd h (a.al x e)
  ow := fun x h => by
    rcases b.ow x h with h | h
    · exact a.ow x h
    · refine .inr ?_
      by_cases e : H x = none
      · exact e
      · exact absurd h (a.al x e)
theorem Stp.less (a : Stp Z H P Z' H' R) (h : ∀ x, T x → R x) : Stp Z H P Z' H' T := ⟨a.zz, a.ch, a.al, a.zn, fun x t => a.ow x (h x t)⟩
theorem RpO.alloc {o : O} {v : V} {f : List Addr} (h : RpO M Z H o v f) : ∀ a ∈ f, ∃ u, H a = some u := by
  intro a ha
  cases o with
  | val d => obtain ⟨rfl, _⟩ := h; cases ha
  | lst ds => obtain ⟨b, xs, _, rfl, e, _⟩ := h; simp at ha; subst ha; exact ⟨_, e⟩
  | dctK ds => obtain ⟨b, xs, _, rfl, e, _⟩ := h; simp at ha; subst ha; exact ⟨_, e⟩
  | dctT ds => obtain ⟨b, xs, _, rfl, e, _⟩ := h; simp at ha; subst ha; exact ⟨_, e⟩
/-- an owned thing stands on where its own addresses are left alone -/
theorem RpO.keep {o : O} {v : V} {f : List Addr} (h : RpO M Z H o v f) (s : Sub Z Z') (k : ∀ a ∈ f, ∀ u, H a = some u → H' a = some u) : RpO M Z' H' o v f := by
  cases o with
  | val d => obtain ⟨e, h⟩ := h; exact ⟨e, Rp.mono s _ _ h⟩
  | lst ds => obtain ⟨b, xs, e1, rfl, e, h⟩ := h; exact ⟨b, xs, e1, rfl, k b (by simp) _ e, RpA.mono s _ _ h⟩
  | dctK ds => obtain ⟨b, xs, e1, rfl, e, h⟩ := h; exact ⟨b, xs, e1, rfl, k b (by simp) _ e, RpK.mono s _ _ h⟩
  | dctT ds => obtain ⟨b, xs, e1, rfl, e, h⟩ := h; exact ⟨b, xs, e1, rfl, k b (by simp) _ e, RpT.mono s _ _ h⟩
theorem RpW.keep {d : D} {v : V} (h : RpW M Z H d v) (s : Sub Z Z') (k : ∀ a u, H a = some u → H' a = some u) : RpW M Z' H' d v := by
  obtain ⟨o, f, h, e⟩ := h
  exact ⟨o, f, h.keep s fun a _ u q => k a u q, e⟩
theorem RpW.of {d : D} {v : V} (h : Rp M Z d v) : RpW M Z H d v := ⟨.val d, [], ⟨rfl, h⟩, rfl⟩
/-- .. frozen -/
theorem RpO.freeze {o : O} {v : V} {f : List Addr} (h : RpO M Z H o v f) (s : Sub Z H) (hz : ∀ a ∈ f, Z a = none) :
    ∃ Z', Sub Z Z' ∧ Sub Z' H ∧ Rp M Z' o.frz v ∧ ∀ a, Z' a ≠ none → Z a ≠ none ∨ a ∈ f := by
  cases o with
  | val d => obtain ⟨rfl, h⟩ := h; exact ⟨Z, .refl _, s, h, fun _ z => .inl z⟩
  | lst ds =>
    obtain ⟨b, xs, rfl, rfl, e, h⟩ := h
    have s1 : Sub Z (upd Z b (.lst xs)) := fun c o q => by rw [upd_ne (ne_of_none q (hz b (by simp)))]; exact q
    refine ⟨upd Z b (.lst xs), s1, fun c o q => ?_, ⟨b, xs, rfl, .inl (.inl upd_same), RpA.mono s1 _ _ h⟩, fun c q => ?_⟩
    · by_cases hc : c = b
      · subst hc; rw [upd_same] at q; cases q; exact e
      · rw [upd_ne hc] at q; exact s _ _ q
    · by_cases hc : c = b
      · subst hc; exact .inr (by simp)
      · rw [upd_ne hc] at q; exact .inl q
  | dctK ds =>
    obtain ⟨b, xs, rfl, rfl, e, h⟩ := h
    have s1 : Sub Z (upd Z b (.dK xs)) := fun c o q => by rw [upd_ne (ne_of_none q (hz b (by simp)))]; exact q
    refine ⟨upd Z b (.dK xs), s1, fun c o q => ?_, ⟨b, xs, rfl, .inl upd_same, RpK.mono s1 _ _ h⟩, fun c q => ?_⟩
    · by_cases hc : c = b
      · subst hc; rw [upd_same] at q; cases q; exact e
      · rw [upd_ne hc] at q; exact s _ _ q
    · by_cases hc : c = b
      · subst hc; exact .inr (by simp)
      · rw [upd_ne hc] at q; exact .inl q
  | dctT ds =>
    obtain ⟨b, xs, rfl, rfl, e, h⟩ := h
    have s1 : Sub Z (upd Z b (.dT xs)) := fun c o q => by rw [upd_ne (ne_of_none q (hz b (by simp)))]; exact q
    refine ⟨upd Z b (.dT xs), s1, fun c o q => ?_, ⟨b, xs, rfl, upd_same, RpT.mono s1 _ _ h⟩, fun c q => ?_⟩
    · by_cases hc : c = b
      · subst hc; rw [upd_same] at q; cases q; exact e
      · rw [upd_ne hc] at q; exact s _ _ q
    · by_cases hc : c = b
      · subst hc; exact .inr (by simp)
      · rw [upd_ne hc] at q; exact .inl q
/-- views -/
theorem RpW.lst {ds : List D} {v : V} (h : RpW M Z H (.lst ds) v) (s : Sub Z H) : ∃ a xs, v = .ref a ∧ SqL M.K H a xs ∧ RpA M Z ds xs := by
  obtain ⟨o, f, h, e⟩ := h
  cases o with
  | val d =>
    cases e
    obtain ⟨_, a, xs, e, h1, h2⟩ := h
    exact ⟨a, xs, e, s.sl h1, h2⟩
  | lst ds' =>
    cases e
    obtain ⟨a, xs, e, _, h1, h2⟩ := h
    exact ⟨a, xs, e, .inl (.inl h1), h2⟩
  | dctK _ => cases e
  | dctT _ => cases e
theorem RpW.dctK {ds : List (Key × D)} {v : V} (h : RpW M Z H (.dctK ds) v) (s : Sub Z H) : ∃ a xs, v = .ref a ∧ Rd H a (.dK xs) ∧ RpK M Z ds xs := by
  obtain ⟨o, f, h, e⟩ := h
  cases o with
  | val d =>
    cases e
    obtain ⟨_, a, xs, e, h1, h2⟩ := h
    exact ⟨a, xs, e, s.rd h1, h2⟩
  | lst ds' => cases e
  | dctK _ =>
    cases e
    obtain ⟨a, xs, e, _, h1, h2⟩ := h
    exact ⟨a, xs, e, .inl h1, h2⟩
  | dctT _ => cases e
theorem RpW.dctT {ds : List (List Key × D)} {v : V} (h : RpW M Z H (.dctT ds) v) (s : Sub Z H) : ∃ a xs, v = .ref a ∧ H a = some (.dT xs) ∧ RpT M Z ds xs := by
  obtain ⟨o, f, h, e⟩ := h
  cases o with
  | val d =>
    cases e
    obtain ⟨_, a, xs, e, h1, h2⟩ := h
    exact ⟨a, xs, e, s _ _ h1, h2⟩
  | lst ds' => cases e
  | dctK _ => cases e
  | dctT _ =>
    cases e
    obtain ⟨a, xs, e, _, h1, h2⟩ := h
    exact ⟨a, xs, e, h1, h2⟩
/-- what is no list and no dict is frozen -/
theorem RpW.rp {d : D} {v : V} (h : RpW M Z H d v) (hd : ∀ o : O, o.frz = d → ∃ d, o = .val d) : Rp M Z d v := by
  obtain ⟨o, f, h, e⟩ := h
  obtain ⟨d', rfl⟩ := hd o e
  cases e
  exact h.2
end
end EV

namespace EV
open PyProof.Rows PySem L2 PySem.Spec

/-! ### readings -/
section
variable (M : Mt)
/-- what a run of m wants to come to -/
def Post (Z H : Hp) (ρ : Env) (φ : Nat → List Addr) (σ : L2.St) (o : O) (ρ' : Env) (Q : VK) : Prop :=
  ∀ v Z' H' φ' f, Stp Z H (Own ρ φ) Z' H' (fun a => Own ρ' φ' a ∨ a ∈ f) → EOk M Z' H' σ ρ' φ' → RpO M Z' H' o v f → (∀ a ∈ f, Z' a = none ∧ ¬ Own ρ' φ' a) → Q v H'
def tM (m : Env → Option (O × Env)) : TE := fun σ H Q => ∃ Z ρ φ o ρ', EOk M Z H σ ρ φ ∧ m ρ = some (o, ρ') ∧ Post M Z H ρ φ σ o ρ' Q
def tT (m : Env → Option (O × Env)) : TT := fun σ H Q => ∃ Z ρ φ b ρ', EOk M Z H σ ρ φ ∧ m ρ = some (.val (.bl b), ρ') ∧
  ∀ Z' H' φ', Stp Z H (Own ρ φ) Z' H' (Own ρ' φ') → EOk M Z' H' σ ρ' φ' → Q b H'
end
theorem PE.weak {X : Cx} {e : Expr} {t t' : TE} (h : PE X e t) (w : ∀ σ H Q, t' σ H Q → t σ H Q) : PE X e t' := ⟨fun pins s σ H Q I q => h.run pins s σ H Q I (w σ H Q q)⟩
theorem PT.weak {X : Cx} {e : Expr} {t t' : TT} (h : PT X e t) (w : ∀ σ H Q, t' σ H Q → t σ H Q) : PT X e t' := ⟨fun pins s σ H Q I q => h.run pins s σ H Q I (w σ H Q q)⟩
theorem PA.weak {X : Cx} {e : List Expr} {t t' : TA} (h : PA X e t) (w : ∀ σ H Q, t' σ H Q → t σ H Q) : PA X e t' := ⟨fun p pins s σ H Q I q => h.run p pins s σ H Q I (w σ H Q q)⟩
theorem PS.weak {X : Cx} {e : Stmt} {t t' : TS} (h : PS X e t) (w : ∀ D σ H, t' D σ H → t D σ H) : PS X e t' := ⟨fun pins s σ H D I q => h.run pins s σ H D I (w D σ H q)⟩
theorem PSs.weak {X : Cx} {e : List Stmt} {t t' : TS} (h : PSs X e t) (w : ∀ D σ H, t' D σ H → t D σ H) : PSs X e t' := ⟨fun pins s σ H D I q => h.run pins s σ H D I (w D σ H q)⟩

def nest : List TE → TA
  | [] => tNil
  | t :: ts => tCons t (nest ts)
section
variable {M : Mt} {Z H Z' H' Z2 H2 : Hp} {σ : L2.St} {ρ ρ' ρ2 : Env} {φ φ' φ2 : Nat → List Addr} {P R T : Addr → Prop}

/-- nothing is owned anew, nothing is written: a value stands where it stood -/
theorem Post.here {Q : VK} {d : D} {v : V} (e : EOk M Z H σ ρ φ) (h : Post M Z H ρ φ σ (.val d) ρ Q) (r : Rp M Z d v) : Q v H :=
  h v Z H φ [] (Stp.refl.less fun a z => z.elim id fun z => by cases z) e ⟨rfl, r⟩ fun _ z => by cases z

/-- owned things that a value froze: behind a run whose value is then frozen -/
theorem frozen {o : O} {v : V} {f : List Addr} (st : Stp Z H P Z' H' (fun a => Own ρ' φ' a ∨ a ∈ f)) (e : EOk M Z' H' σ ρ' φ') (r : RpO M Z' H' o v f) (hf : ∀ a ∈ f, Z' a = none ∧ ¬ Own ρ' φ' a) :
    ∃ Z2, Stp Z H P Z2 H' (Own ρ' φ') ∧ EOk M Z2 H' σ ρ' φ' ∧ Rp M Z2 o.frz v := by
  obtain ⟨Z2, s1, s2, rp, zn⟩ := r.freeze e.sub fun a ha => (hf a ha).1
  refine ⟨Z2, ⟨st.zz.trans s1, st.ch, st.al, fun a h => ?_, fun a h => st.ow a (.inl h)⟩, ⟨s2, e.len, fun i o hi => ?_, fun a ha => ?_, e.dis⟩, rp⟩
  · rcases zn a h with h | h
    · exact st.zn a h
    · exact .inr (st.ow a (.inr h))
  · obtain ⟨v, h1, h2⟩ := e.hold i o hi
    exact ⟨v, h1, h2.keep s1 fun _ _ _ q => q⟩
  · have h0 := e.out a ha
    cases q : Z2 a with
    | none => rfl
    | some u =>
      rcases zn a (by rw [q]; exact fun z => nomatch z) with h | h
      · exact absurd h0 h
      · exact absurd ha (hf a h).2
/-- a run that goes on behind another one -/
theorem Post.then {o : O} {Q : VK} {ρ1 : Env} {φ1 : Nat → List Addr} {Z1 H1 : Hp} (st : Stp Z H (Own ρ φ) Z1 H1 (Own ρ1 φ1)) (h : Post M Z H ρ φ σ o ρ' Q) : Post M Z1 H1 ρ1 φ1 σ o ρ' Q :=
  fun v Z' H' φ' f s2 e r hf => h v Z' H' φ' f (st.trans s2) e r hf

/-- small operations make new things at most -/
structure Ext (Z H Z' H' : Hp) (f : List Addr) : Prop where
  zz : Sub Z Z'
  zh : Sub Z' H'
  hh : Sub H H'
  zn : ∀ a, Z' a ≠ none → Z a ≠ none ∨ H a = none
  fr : ∀ a ∈ f, H a = none ∧ Z' a = none
theorem Ext.refl (s : Sub Z H) : Ext Z H Z H [] := ⟨.refl _, s, .refl _, fun _ h => .inl h, fun _ h => by cases h⟩
theorem EOk.ext {f : List Addr} (e : EOk M Z H σ ρ φ) (x : Ext Z H Z' H' f) : EOk M Z' H' σ ρ φ := by
  refine ⟨x.zh, e.len, fun i o hi => ?_, fun a ha => ?_, e.dis⟩
  · obtain ⟨v, h1, h2⟩ := e.hold i o hi
    exact ⟨v, h1, h2.keep x.zz fun a _ u q => x.hh a u q⟩
  · have h0 := e.out a ha
    cases q : Z' a with
    | none => rfl
    | some u =>
      rcases x.zn a (by rw [q]; exact fun z => nomatch z) with h | h
      · exact absurd h0 h
      · obtain ⟨i, o, hi, hm⟩ := ha
        obtain ⟨v, _, h2⟩ := e.hold i o hi
        obtain ⟨u, hu⟩ := h2.alloc a hm
        rw [hu] at h; cases h
theorem Ext.stp {f : List Addr} (x : Ext Z H Z' H' f) : Stp Z H P Z' H' (fun a => P a ∨ a ∈ f) :=
  ⟨x.zz, fun a o h _ => x.hh a o h, (fun a h z => by
    cases q : H a with
    | none => exact h q
    | some u => rw [x.hh a u q] at z; cases z), fun a h => (x.zn a h).elim .inl fun z => .inr (.inr z), fun a h => h.elim .inl fun z => .inr (x.fr a z).1⟩
/-- what a small operation's value is wanted for -/
def Cont (M : Mt) (Z H : Hp) (o : O) (Q : VK) : Prop := ∀ v Z' H' f, Ext Z H Z' H' f → RpO M Z' H' o v f → Q v H'
theorem Cont.val {d : D} {v : V} {Q : VK} (s : Sub Z H) (c : Cont M Z H (.val d) Q) (r : Rp M Z d v) : Q v H := c v Z H [] (.refl s) ⟨rfl, r⟩
theorem Post.cont {o : O} {Q : VK} {Z1 H1 : Hp} {φ1 : Nat → List Addr} (st : Stp Z H (Own ρ φ) Z1 H1 (Own ρ' φ1)) (e : EOk M Z1 H1 σ ρ' φ1) (h : Post M Z H ρ φ σ o ρ' Q) : Cont M Z1 H1 o Q :=
  fun v Z' H' f x r => h v Z' H' φ1 f (st.trans x.stp) (e.ext x) r fun a ha => ⟨(x.fr a ha).2, fun z => by
    obtain ⟨i, o, hi, hm⟩ := z
    obtain ⟨v, _, h2⟩ := e.hold i o hi
    obtain ⟨u, hu⟩ := h2.alloc a hm
    rw [(x.fr a ha).1] at hu; cases hu⟩

/-! ### operands -/
section
variable (M) (G : List D) (CL : List (List Nat)) (C : CallF)
def rdV (e : E) : TE := tM M (ev G CL C e false)
def rdO : E → TE
  | .bw i => tVar i
  | e => tM M (ev G CL C e false)
def rdA : E → TE
  | .rf i => tVar i
  | e => tM M (ev G CL C e false)
end
theorem RpWs.mono : ∀ {ds : List D} {vs : List V}, RpWs M Z H ds vs → Sub Z Z' → Sub H H' → RpWs M Z' H' ds vs
  | [], _, h, _, _ => h
  | d :: ds, _, h, s1, s2 => by
    obtain ⟨v, vs, rfl, h1, h2⟩ := h
    exact ⟨v, vs, rfl, h1.keep s1 s2, RpWs.mono h2 s1 s2⟩
variable {G : List D} {CL : List (List Nat)} {C : CallF}
theorem vals_ok : ∀ (es : List E) {Z H : Hp} {ρ ρ' : Env} {φ : Nat → List Addr} {ds : List D} {K : List V → Hp → Prop}, EOk M Z H σ ρ φ → evV G CL C es ρ = some (ds, ρ') →
    (∀ vs Z' H' φ', Stp Z H (Own ρ φ) Z' H' (Own ρ' φ') → EOk M Z' H' σ ρ' φ' → RpA M Z' ds vs → K vs H') → nest (es.map (rdV M G CL C)) σ H K
  | [], Z, H, ρ, ρ', φ, ds, K, e, h, k => by
    simp only [evV, Option.some.injEq, Prod.mk.injEq] at h
    obtain ⟨rfl, rfl⟩ := h
    exact k [] Z H φ .refl e rfl
  | x :: es, Z, H, ρ, ρ', φ, ds, K, e, h, k => by
    unfold evV at h
    cases q1 : ev G CL C x false ρ with
    | none => rw [q1] at h; cases h
    | some p =>
      obtain ⟨o, ρ1⟩ := p
      rw [q1] at h
      simp only at h
      cases q2 : evV G CL C es ρ1 with
      | none => rw [q2] at h; cases h
      | some p2 =>
        obtain ⟨ds2, ρ2⟩ := p2
        rw [q2] at h
        simp only [Option.some.injEq, Prod.mk.injEq] at h
        obtain ⟨rfl, rfl⟩ := h
        refine ⟨Z, ρ, φ, o, ρ1, e, q1, fun v Z1 H1 φ1 f st e1 r hf => ?_⟩
        obtain ⟨Z2, st2, e2, rp⟩ := frozen st e1 r hf
        refine vals_ok es e2 q2 fun vs Z3 H3 φ3 st3 e3 ra => ?_
        exact k (v :: vs) Z3 H3 φ3 (st2.trans st3) e3 ⟨v, vs, rfl, Rp.mono st3.zz _ _ rp, ra⟩
theorem ops_ok : ∀ (es : List E) {Z H : Hp} {ρ ρ' : Env} {φ : Nat → List Addr} {ds : List D} {K : List V → Hp → Prop}, EOk M Z H σ ρ φ → evO G CL C es ρ = some (ds, ρ') →
    (∀ vs Z' H' φ', Stp Z H (Own ρ φ) Z' H' (Own ρ' φ') → EOk M Z' H' σ ρ' φ' → RpWs M Z' H' ds vs → K vs H') → nest (es.map (rdO M G CL C)) σ H K
  | [], Z, H, ρ, ρ', φ, ds, K, e, h, k => by
    simp only [evO, Option.some.injEq, Prod.mk.injEq] at h
    obtain ⟨rfl, rfl⟩ := h
    exact k [] Z H φ .refl e rfl
  | x :: es, Z, H, ρ, ρ', φ, ds, K, e, h, k => by
    by_cases hb : ∃ i, x = .bw i
    · obtain ⟨i, rfl⟩ := hb
      unfold evO at h
      simp only at h
      cases q0 : getS ρ i with
      | none => rw [q0] at h; cases h
      | some o0 =>
      rw [q0] at h
      simp only at h
      cases q2 : evO G CL C es ρ with
      | none => rw [q2] at h; cases h
      | some p2 =>
        obtain ⟨ds2, ρ2⟩ := p2
        rw [q2] at h
        simp only at h
        cases q3 : getS ρ2 i with
        | none => rw [q3] at h; cases h
        | some o =>
          rw [q3] at h
          simp only [Option.some.injEq, Prod.mk.injEq] at h
          obtain ⟨rfl, rfl⟩ := h
          obtain ⟨v, hv, _⟩ := e.hold i o0 q0
          refine ⟨v, hv, ?_⟩
          refine ops_ok es e q2 fun vs Z3 H3 φ3 st3 e3 ra => ?_
          obtain ⟨v', hv', r⟩ := e3.hold i o q3
          rw [hv] at hv'
          cases hv'
          exact k (v :: vs) Z3 H3 φ3 st3 e3 ⟨v, vs, rfl, ⟨o, _, r, rfl⟩, ra⟩
    · have hd : rdO M G CL C x = tM M (ev G CL C x false) := by
        cases x <;> first | rfl | exact absurd ⟨_, rfl⟩ hb
      have h' : (match ev G CL C x false ρ with
          | none => none
          | some (o, ρ1) => match evO G CL C es ρ1 with
            | none => none
            | some (ds, ρ') => some (o.frz :: ds, ρ')) = some (ds, ρ') := by
        cases x <;> first | exact h | exact absurd ⟨_, rfl⟩ hb
      cases q1 : ev G CL C x false ρ with
      | none => rw [q1] at h'; cases h'
      | some p =>
        obtain ⟨o, ρ1⟩ := p
        rw [q1] at h'
        simp only at h'
        cases q2 : evO G CL C es ρ1 with
        | none => rw [q2] at h'; cases h'
        | some p2 =>
          obtain ⟨ds2, ρ2⟩ := p2
          rw [q2] at h'
          simp only [Option.some.injEq, Prod.mk.injEq] at h'
          obtain ⟨rfl, rfl⟩ := h'
          show nest (rdO M G CL C x :: es.map (rdO M G CL C)) σ H K
          rw [hd]
          refine ⟨Z, ρ, φ, o, ρ1, e, q1, fun v Z1 H1 φ1 f st e1 r hf => ?_⟩
          obtain ⟨Z2, st2, e2, rp⟩ := frozen st e1 r hf
          refine ops_ok es e2 q2 fun vs Z3 H3 φ3 st3 e3 ra => ?_
          exact k (v :: vs) Z3 H3 φ3 (st2.trans st3) e3 ⟨v, vs, rfl, .of (Rp.mono st3.zz _ _ rp), ra⟩
end
end EV

namespace EV
open PyProof.Rows PySem L2 PySem.Spec

section
variable {M : Mt} {Z H : Hp} {Q : VK} {p : Addr}
theorem Sub.none {Z H : Hp} {a : Addr} (s : Sub Z H) (h : H a = none) : Z a = none := by
  cases q : Z a with
  | none => rfl
  | some u => rw [s a u q] at h; cases h
theorem new_lst {ds : List D} {vs : List V} (s : Sub Z H) (c : Cont M Z H (.lst ds) Q) (r : RpA M Z ds vs) (hp : H p = none) : Q (.ref p) (upd H p (.lst vs)) := by
  refine c (.ref p) Z (upd H p (.lst vs)) [p] ⟨.refl _, fun a o h => ?_, fun a o h => ?_, fun _ h => .inl h, fun a h => ?_⟩ ⟨p, vs, rfl, rfl, upd_same, r⟩
  · rw [upd_ne (ne_of_none (s a o h) hp)]; exact s a o h
  · rw [upd_ne (ne_of_none h hp)]; exact h
  · simp at h; subst h; exact ⟨hp, s.none hp⟩
theorem new_dK {ds : List (Key × D)} {vs : List (Key × V)} (s : Sub Z H) (c : Cont M Z H (.dctK ds) Q) (r : RpK M Z ds vs) (hp : H p = none) : Q (.ref p) (upd H p (.dK vs)) := by
  refine c (.ref p) Z (upd H p (.dK vs)) [p] ⟨.refl _, fun a o h => ?_, fun a o h => ?_, fun _ h => .inl h, fun a h => ?_⟩ ⟨p, vs, rfl, rfl, upd_same, r⟩
  · rw [upd_ne (ne_of_none (s a o h) hp)]; exact s a o h
  · rw [upd_ne (ne_of_none h hp)]; exact h
  · simp at h; subst h; exact ⟨hp, s.none hp⟩
theorem new_dT {ds : List (List Key × D)} {vs : List (List Key × V)} (s : Sub Z H) (c : Cont M Z H (.dctT ds) Q) (r : RpT M Z ds vs) (hp : H p = none) : Q (.ref p) (upd H p (.dT vs)) := by
  refine c (.ref p) Z (upd H p (.dT vs)) [p] ⟨.refl _, fun a o h => ?_, fun a o h => ?_, fun _ h => .inl h, fun a h => ?_⟩ ⟨p, vs, rfl, rfl, upd_same, r⟩
  · rw [upd_ne (ne_of_none (s a o h) hp)]; exact s a o h
  · rw [upd_ne (ne_of_none h hp)]; exact h
  · simp at h; subst h; exact ⟨hp, s.none hp⟩
theorem new_tup {ds : List D} {vs : List V} (s : Sub Z H) (c : Cont M Z H (.val (.tup ds)) Q) (r : RpA M Z ds vs) (hp : H p = none) : Q (.ref p) (upd H p (.tup vs)) := by
  have hz := s.none hp
  have s1 : Sub Z (upd Z p (.tup vs)) := fun a o h => by rw [upd_ne (ne_of_none h hz)]; exact h
  refine c (.ref p) (upd Z p (.tup vs)) (upd H p (.tup vs)) [] ⟨s1, fun a o h => ?_, fun a o h => ?_, fun a h => ?_, fun a h => by cases h⟩ ⟨rfl, p, vs, rfl, .inl (.inl upd_same), RpA.mono s1 _ _ r⟩
  · by_cases e : a = p
    · subst e; rw [upd_same] at h ⊢; exact h
    · rw [upd_ne e] at h ⊢; exact s a o h
  · rw [upd_ne (ne_of_none h hp)]; exact h
  · by_cases e : a = p
    · subst e; exact .inr hp
    · rw [upd_ne e] at h; exact .inl h

/-! ### what is known of a value by its data -/
def isVal : D → Bool
  | .lst _ => false
  | .dctK _ => false
  | .dctT _ => false
  | _ => true
theorem O.val_of {o : O} {d : D} (h : o.frz = d) (hd : isVal d = true) : o = .val d := by
  cases o with
  | val x => cases h; rfl
  | lst xs => cases h; exact absurd hd Bool.false_ne_true
  | dctK xs => cases h; exact absurd hd Bool.false_ne_true
  | dctT xs => cases h; exact absurd hd Bool.false_ne_true
theorem RpW.ofval {d : D} {v : V} (h : RpW M Z H d v) (hd : isVal d = true) : Rp M Z d v := by
  obtain ⟨o, f, h, e⟩ := h
  have := O.val_of e hd
  subst this
  exact h.2
theorem RpW.non {v : V} (h : RpW M Z H .non v) : v = .non := h.ofval rfl
theorem RpW.bl {b : Bool} {v : V} (h : RpW M Z H (.bl b) v) : v = .bl b := h.ofval rfl
theorem RpW.int {i : Int} {v : V} (h : RpW M Z H (.int i) v) : v = .int i := h.ofval rfl
theorem RpW.str {i : Str} {v : V} (h : RpW M Z H (.str i) v) : v = .str i := h.ofval rfl
theorem RpW.tup {ds : List D} {v : V} (h : RpW M Z H (.tup ds) v) (s : Sub Z H) : ∃ a xs, v = .ref a ∧ SqT M.K H a xs ∧ RpA M Z ds xs := by
  obtain ⟨a, xs, e, h1, h2⟩ := h.ofval rfl
  exact ⟨a, xs, e, s.st h1, h2⟩
theorem RpW.seq {d : D} {ds : List D} {v : V} (h : RpW M Z H d v) (s : Sub Z H) (e : seqOf d = some ds) : ∃ a xs, v = .ref a ∧ (SqL M.K H a xs ∨ SqT M.K H a xs) ∧ RpA M Z ds xs := by
  cases d with
  | lst xs => cases e; obtain ⟨a, xs, e, h1, h2⟩ := h.lst s; exact ⟨a, xs, e, .inl h1, h2⟩
  | tup xs => cases e; obtain ⟨a, xs, e, h1, h2⟩ := h.tup s; exact ⟨a, xs, e, .inr h1, h2⟩
  | _ => cases e
mutual
theorem dp_of (s : Sub Z H) : ∀ (d : D) (v : V) (q : PyData), Rp M Z d v → toPy d = some q → Dp M.K H v q
  | .non, v, q, h, e => by cases h; cases e; exact .non
  | .bl b, v, q, h, e => by cases h; cases e; exact .bl b
  | .int i, v, q, h, e => by cases h; cases e; exact .int i
  | .str i, v, q, h, e => by cases h; cases e; exact .str i
  | .tup ds, v, q, h, e => by
    obtain ⟨a, xs, rfl, h1, h2⟩ := h
    unfold toPy at e
    cases q1 : toPys ds with
    | none => rw [q1] at e; cases e
    | some l => rw [q1] at e; cases e; exact .tup (s.st h1) (dps_of s ds xs l h2 q1)
  | .lst ds, v, q, h, e => by
    obtain ⟨a, xs, rfl, h1, h2⟩ := h
    unfold toPy at e
    cases q1 : toPys ds with
    | none => rw [q1] at e; cases e
    | some l => rw [q1] at e; cases e; exact .lst (s.sl h1) (dps_of s ds xs l h2 q1)
  | .dctK _, _, _, _, e => by cases e
  | .dctT _, _, _, _, e => by cases e
  | .ins _ _, _, _, _, e => by cases e
theorem dps_of (s : Sub Z H) : ∀ (ds : List D) (vs : List V) (q : List PyData), RpA M Z ds vs → toPys ds = some q → DpAll M.K H vs q
  | [], vs, q, h, e => by cases h; cases e; exact .nil
  | d :: ds, vs, q, h, e => by
    obtain ⟨v, vs, rfl, h1, h2⟩ := h
    unfold toPys at e
    cases q1 : toPy d with
    | none => rw [q1] at e; cases e
    | some a =>
      rw [q1] at e
      cases q2 : toPys ds with
      | none => rw [q2] at e; cases e
      | some l => rw [q2] at e; cases e; exact .cons (dp_of s d v a h1 q1) (dps_of s ds vs l h2 q2)
end
theorem RpW.dp {d : D} {v : V} {q : PyData} (h : RpW M Z H d v) (s : Sub Z H) (e : toPy d = some q) : Dp M.K H v q := by
  cases d with
  | lst ds =>
    obtain ⟨a, xs, rfl, h1, h2⟩ := h.lst s
    unfold toPy at e
    cases q1 : toPys ds with
    | none => rw [q1] at e; cases e
    | some l => rw [q1] at e; cases e; exact .lst h1 (dps_of s ds xs l h2 q1)
  | dctK _ => cases e
  | dctT _ => cases e
  | non => exact dp_of s _ _ _ (h.ofval rfl) e
  | bl _ => exact dp_of s _ _ _ (h.ofval rfl) e
  | int _ => exact dp_of s _ _ _ (h.ofval rfl) e
  | str _ => exact dp_of s _ _ _ (h.ofval rfl) e
  | tup _ => exact dp_of s _ _ _ (h.ofval rfl) e
  | ins _ _ => cases e

/-! ### operators of two values -/
/-- r serves p -/
def Srv (M : Mt) (p : Pr) (r : R2) : Prop := ∀ (Z H : Hp) (x y : V) (dx dy : D) (o : O) (Q : VK), Sub Z H → RpW M Z H dx x → RpW M Z H dy y → prim p [dx, dy] = some o → Cont M Z H o Q → r x y H Q
theorem srv_I0 {p : Pr} {g : Int → Int → Int} (h : ∀ dx dy o, prim p [dx, dy] = some o → ∃ i j, dx = .int i ∧ dy = .int j ∧ o = .val (.int (g i j))) : Srv M p (rI0 fun i j => .int (g i j)) := by
  intro Z H x y dx dy o Q s hx hy e c
  obtain ⟨i, j, rfl, rfl, rfl⟩ := h dx dy o e
  exact ⟨i, j, hx.int, hy.int, c.val s rfl⟩
theorem srv_I {p : Pr} {C : Int → Int → Prop} {g : Int → Int → Int} (h : ∀ dx dy o, prim p [dx, dy] = some o → ∃ i j, dx = .int i ∧ dy = .int j ∧ C i j ∧ o = .val (.int (g i j))) : Srv M p (rI C fun i j => .int (g i j)) := by
  intro Z H x y dx dy o Q s hx hy e c
  obtain ⟨i, j, rfl, rfl, hC, rfl⟩ := h dx dy o e
  exact ⟨i, j, hx.int, hy.int, hC, c.val s rfl⟩
end

section
variable {X : Cx}
/-- list + list, whatever way they are to be read -/
def rCatL (K : PySem.W.Frag) : R2 := fun x y H Q => ∃ l b xs zs, x = .ref l ∧ y = .ref b ∧ SqL K H l xs ∧ SqL K H b zs ∧ xs.length + zs.length ≤ sizeLine ∧ ∀ p, H p = none → Q (.ref p) (upd H p (.lst (xs ++ zs)))
theorem op_catL : OpR X (binaryOp .Add) (rCatL X.K) := by
  intro pins s σ H x y v u Q I rx ry h
  obtain ⟨l, b, xs, zs, rfl, rfl, hH, hB, hz, q⟩ := h
  cases rx
  cases ry
  obtain ⟨its, r, pl, z⟩ := I.list hH
  obtain ⟨its2, r2, pl2, z2⟩ := I.list hB
  obtain ⟨⟨cls, dd, data, sl⟩, ho, hc, n, hd⟩ := pl.isList
  obtain ⟨⟨cls2, dd2, data2, sl2⟩, ho2, hc2, n2, hd2⟩ := pl2.isList
  simp only at hc hd hc2 hd2
  subst hc hd hc2 hd2
  have e : its.toArray ++ its2.toArray = (its ++ its2).toArray := by simp
  have hl := r.length
  have hl2 := r2.length
  refine concat_meets ⟨_, ho, rfl⟩ ⟨_, ho2, rfl⟩ noFill_list_add seq_list_add PySem.F.slot_list_add PySem.F.entry_list_add (PySem.F.args_list_add_2 _ _) (list_addW l b its.toArray its2.toArray n n2 dd dd2 sl sl2 (by simp; omega)) ⟨ho, ho2, ?_⟩
  rw [e]
  exact ⟨.ref _, _, I.lnew (t' := s.toks) (r.append r2) (by rw [List.length_append]; omega), rfl, q _ I.fresh⟩
end

section
variable {M : Mt} {X : Cx}
theorem Srv.or {p : Pr} {r r' : R2} (h : ∀ (Z H : Hp) (x y : V) (dx dy : D) (o : O) (Q : VK), Sub Z H → RpW M Z H dx x → RpW M Z H dy y → prim p [dx, dy] = some o → Cont M Z H o Q → r x y H Q ∨ r' x y H Q) : Srv M p (fun x y H Q => r x y H Q ∨ r' x y H Q) := h
theorem log2_64 {j : Int} (h0 : 0 < j) (h : j < 2 ^ 64) : j.natAbs.log2 < 9000 := by
  have : j.natAbs < 2 ^ 64 := by omega
  exact Nat.lt_of_lt_of_le (PySem.Flt.log2_lt_of (by decide) this) (by decide)

/-- the binary operators -/
def binOf : Pr → Option Operator
  | .add => some .Add | .sub => some .Sub | .mul => some .Mult | .fdiv => some .FloorDiv | .mod => some .Mod | .pow => some .Pow | .shl => some .LShift | _ => none
theorem int2_some {x y : D} {f : Int → Int → Option O} {o : O} (h : int2 x y f = some o) : ∃ i j, x = .int i ∧ y = .int j ∧ f i j = some o := by
  unfold int2 at h
  split at h
  · exact ⟨_, _, rfl, rfl, h⟩
  · cases h
theorem ite_some {α : Type} {c : Prop} [Decidable c] {x : Option α} {o : α} (h : (if c then x else none) = some o) : c ∧ x = some o := by
  split at h
  · exact ⟨by assumption, h⟩
  · cases h
theorem oi_some {i : Int} {o : O} (h : oi i = some o) : o = .val (.int i) := (Option.some.inj h).symm
theorem ob_some {i : Bool} {o : O} (h : ob i = some o) : o = .val (.bl i) := (Option.some.inj h).symm
theorem add_srv : Srv M .add (fun x y H Q => rI0 (fun i j => .int (i + j)) x y H Q ∨ (fun x y H Q => ∃ i j, x = V.str i ∧ y = V.str j ∧ i.length + j.length ≤ sizeLine ∧ Q (.str (i ++ j)) H) x y H Q ∨ rCatL M.K x y H Q ∨ rCatA M.K x y H Q) := by
  intro Z H x y dx dy o Q s hx hy e c
  have e : addD dx dy = some o := e
  cases dx with
  | int i =>
    cases dy with
    | int j => cases oi_some e; exact .inl ⟨i, j, hx.int, hy.int, c.val s rfl⟩
    | _ => cases e
  | str i =>
    cases dy with
    | str j =>
      obtain ⟨h, e⟩ := ite_some e
      cases e
      exact .inr (.inl ⟨i, j, hx.str, hy.str, h, c.val s rfl⟩)
    | _ => cases e
  | lst xs =>
    cases dy with
    | lst ys =>
      obtain ⟨h, e⟩ := ite_some e
      cases e
      obtain ⟨a, vs, rfl, h1, h2⟩ := hx.lst s
      obtain ⟨b, ws, rfl, h3, h4⟩ := hy.lst s
      exact .inr (.inr (.inl ⟨a, b, vs, ws, rfl, rfl, h1, h3, by rw [h2.length, h4.length]; exact h, fun p hp => new_lst s c (h2.append h4) hp⟩))
    | _ => cases e
  | tup xs =>
    cases dy with
    | tup ys =>
      obtain ⟨h, e⟩ := ite_some e
      cases e
      have hx' := hx.ofval rfl
      have hy' := hy.ofval rfl
      obtain ⟨a, vs, rfl, h1, h2⟩ := hx.tup s
      obtain ⟨b, ws, rfl, h3, h4⟩ := hy.tup s
      refine .inr (.inr (.inr ⟨a, b, vs, ws, rfl, rfl, h1, h3, by rw [h2.length, h4.length]; exact h, fun e => ?_, fun _ e => ?_, fun _ _ p hp => new_tup s c (h2.append h4) hp⟩))
      · have : xs = [] := by
          have := h2.length
          rw [e] at this
          exact List.eq_nil_of_length_eq_zero this.symm
        subst this
        exact c.val s hy'
      · have : ys = [] := by
          have := h4.length
          rw [e] at this
          exact List.eq_nil_of_length_eq_zero this.symm
        subst this
        rw [List.append_nil] at c
        exact c.val s hx'
    | _ => cases e
  | _ => cases e
theorem bin_ok (hK : X.K = M.K) (p : Pr) (op : Operator) (h : binOf p = some op) : ∃ r, OpR X (binaryOp op) r ∧ Srv M p r := by
  cases p <;> simp only [binOf, reduceCtorEq, Option.some.injEq] at h <;> subst h
  case add =>
    refine ⟨_, op_add.or (op_add_str.or (op_catL.or op_catA)), ?_⟩
    rw [hK]
    exact add_srv
  case sub =>
    refine ⟨_, op_sub, srv_I0 fun dx dy o h => ?_⟩
    obtain ⟨i, j, e1, e2, h⟩ := int2_some h
    exact ⟨i, j, e1, e2, oi_some h⟩
  case mul =>
    refine ⟨_, op_mul, srv_I fun dx dy o h => ?_⟩
    obtain ⟨i, j, e1, e2, h⟩ := int2_some h
    obtain ⟨hc, h⟩ := ite_some h
    exact ⟨i, j, e1, e2, hc, oi_some h⟩
  case fdiv =>
    refine ⟨_, op_fdivW, srv_I fun dx dy o h => ?_⟩
    obtain ⟨i, j, e1, e2, h⟩ := int2_some h
    obtain ⟨hc, h⟩ := ite_some h
    exact ⟨i, j, e1, e2, ⟨hc.1, log2_64 hc.1 hc.2⟩, oi_some h⟩
  case mod =>
    refine ⟨_, op_mod, srv_I fun dx dy o h => ?_⟩
    obtain ⟨i, j, e1, e2, h⟩ := int2_some h
    obtain ⟨hc, h⟩ := ite_some h
    exact ⟨i, j, e1, e2, hc, oi_some h⟩
  case pow =>
    refine ⟨_, op_pow, srv_I fun dx dy o h => ?_⟩
    obtain ⟨i, j, e1, e2, h⟩ := int2_some h
    obtain ⟨hc, h⟩ := ite_some h
    exact ⟨i, j, e1, e2, hc, oi_some h⟩
  case shl =>
    refine ⟨_, op_shl, srv_I fun dx dy o h => ?_⟩
    obtain ⟨i, j, e1, e2, h⟩ := int2_some h
    obtain ⟨hc, h⟩ := ite_some h
    exact ⟨i, j, e1, e2, hc, oi_some h⟩
end
end EV

namespace EV
open PyProof.Rows PySem L2 PySem.Spec

def cmpOf : Pr → Option CmpOp
  | .eq => some .Eq | .ne => some .NotEq | .lt => some .Lt | .le => some .LtE | .gt => some .Gt | .ge => some .GtE | .isN => some .Is | .notN => some .IsNot | .isin => some .In | .notin => some .NotIn | _ => none

section
variable {X : Cx}
/-- in, of any data: a list, a tuple -/
def rInA (K : PySem.W.Frag) (neg : Bool) : R2 := fun x y H Q => ∃ d ds, Dp K H x d ∧ (Dp K H y (.list ds) ∨ Dp K H y (.tuple ds)) ∧ SeqAt.shaped d = true ∧ PyData.canLayAll0 ds = true ∧ Q (.bl (if neg then !(ds.any fun z => PyData.eqv z d) else ds.any fun z => PyData.eqv z d)) H
theorem op_inA (hu : X.A.units + 65 < cLine) : OpR X (compareOp .In) (rInA X.K false) := by
  intro pins s σ H x y v u Q I rx ry h
  obtain ⟨d, ds, hd, he, sd, se, q⟩ := h
  obtain ⟨as, r1⟩ := Dp.reads I d x v hd rx
  rcases he with he | he
  · obtain ⟨bs, r2⟩ := Dp.reads I (.list ds) y u he ry
    exact SeqAt.in_list_reads r2 r1 se (SeqAt.canLay_of_shaped sd) (PyProof.Rows.room_in_shaped sd hu) ⟨.bl _, H, I, rfl, q⟩
  · obtain ⟨bs, r2⟩ := Dp.reads I (.tuple ds) y u he ry
    exact SeqAt.in_tuple_reads r2 r1 se (SeqAt.canLay_of_shaped sd) (PyProof.Rows.room_in_shaped sd hu) ⟨.bl _, H, I, rfl, q⟩
theorem op_notInA (hu : X.A.units + 65 < cLine) : OpR X (compareOp .NotIn) (rInA X.K true) := by
  intro pins s σ H x y v u Q I rx ry h
  obtain ⟨d, ds, hd, he, sd, se, q⟩ := h
  obtain ⟨as, r1⟩ := Dp.reads I d x v hd rx
  rcases he with he | he
  · obtain ⟨bs, r2⟩ := Dp.reads I (.list ds) y u he ry
    exact SeqAt.notIn_list_reads r2 r1 se (SeqAt.canLay_of_shaped sd) (PyProof.Rows.room_in_shaped sd hu) ⟨.bl _, H, I, rfl, q⟩
  · obtain ⟨bs, r2⟩ := Dp.reads I (.tuple ds) y u he ry
    exact SeqAt.notIn_tuple_reads r2 r1 se (SeqAt.canLay_of_shaped sd) (PyProof.Rows.room_in_shaped sd hu) ⟨.bl _, H, I, rfl, q⟩
/-- in, of a dict -/
def rInDc (neg : Bool) : R2 := fun x y H Q => ∃ a o, y = .ref a ∧ DGet H a x o ∧ Q (.bl (if neg then !o.isSome else o.isSome)) H
theorem op_inDc (hu : X.A.units + 65 < cLine) : OpR X (compareOp .In) (rInDc false) := by
  intro pins s σ H x y v u Q I rx ry h
  obtain ⟨a, o, rfl, g, q⟩ := h
  cases ry
  exact d_in (by omega) I g rx fun s' I' => ⟨.bl _, H, I', rfl, q⟩
theorem op_notInDc (hu : X.A.units + 65 < cLine) : OpR X (compareOp .NotIn) (rInDc true) := by
  intro pins s σ H x y v u Q I rx ry h
  obtain ⟨a, o, rfl, g, q⟩ := h
  cases ry
  exact d_notIn (by omega) I g rx fun s' I' => ⟨.bl _, H, I', rfl, q⟩
end

section
variable {M : Mt} {Z H : Hp}
/-! ### what a dict holds -/
theorem key1_rp {k : D} {κ : Key} {v : V} (h : RpW M Z H k v) (e : key1 k = some κ) : v = kV κ := by
  cases k with
  | int i => cases e; exact h.int
  | str i => cases e; exact h.str
  | _ => cases e
theorem keys1_rp : ∀ {ks : List D} {κs : List Key} {vs : List V}, RpA M Z ks vs → keys1 ks = some κs → vs = κs.map kV
  | [], _, _, h, e => by cases h; cases e; rfl
  | k :: ks, κs, _, h, e => by
    obtain ⟨v, vs, rfl, h1, h2⟩ := h
    unfold keys1 at e
    cases q1 : key1 k with
    | none => rw [q1] at e; cases e
    | some κ =>
      rw [q1] at e
      cases q2 : keys1 ks with
      | none => rw [q2] at e; cases e
      | some l =>
        rw [q2] at e
        cases e
        rw [key1_rp (H := Z) (RpW.of h1) q1, keys1_rp h2 q2]
        rfl
theorem aget_K : ∀ {ds : List (Key × D)} {xs : List (Key × V)} (k : Key), RpK M Z ds xs → match aget ds k, valV xs k with
    | some d, some v => Rp M Z d v
    | none, none => True
    | _, _ => False
  | [], _, k, h => by cases h; exact True.intro
  | (k', d) :: ds, _, k, h => by
    obtain ⟨v, vs, rfl, h1, h2⟩ := h
    by_cases e : k' = k
    · have e1 : aget ((k', d) :: ds) k = some d := by simp [aget, List.find?_cons, e]
      rw [e1, valV_pos e]
      exact h1
    · have e1 : aget ((k', d) :: ds) k = aget ds k := by simp [aget, List.find?_cons, e]
      rw [e1, valV_neg e]
      exact aget_K k h2
theorem aget_T : ∀ {ds : List (List Key × D)} {xs : List (List Key × V)} (k : List Key), RpT M Z ds xs → match aget ds k, valV xs k with
    | some d, some v => Rp M Z d v
    | none, none => True
    | _, _ => False
  | [], _, k, h => by cases h; exact True.intro
  | (k', d) :: ds, _, k, h => by
    obtain ⟨v, vs, rfl, h1, h2⟩ := h
    by_cases e : k' = k
    · have e1 : aget ((k', d) :: ds) k = some d := by simp [aget, List.find?_cons, e]
      rw [e1, valV_pos e]
      exact h1
    · have e1 : aget ((k', d) :: ds) k = aget ds k := by simp [aget, List.find?_cons, e]
      rw [e1, valV_neg e]
      exact aget_T k h2
/-- H holds a tuple as a key -/
theorem keyT_rp {K : PySem.W.Frag} {k : D} {κ : List Key} {v : V} (s : Sub Z H) (h : RpW M Z H k v) (e : keyT k = some κ) : ∃ b, v = .ref b ∧ SqT M.K H b (κ.map kV) := by
  cases k with
  | tup xs =>
    obtain ⟨b, vs, rfl, h1, h2⟩ := h.tup s
    rw [keys1_rp h2 e] at h1
    exact ⟨b, rfl, h1⟩
  | _ => cases e
def RelR (M : Mt) (Z : Hp) : Option D → Option V → Prop
  | some d, some v => Rp M Z d v
  | none, none => True
  | _, _ => False
theorem dget_rp {d k : D} {o : Option D} {x y : V} (s : Sub Z H) (hd : RpW M Z H d x) (hk : RpW M Z H k y) (e : dget d k = some o) : ∃ a r, x = .ref a ∧ DGet H a y r ∧ RelR M Z o r := by
  cases d with
  | dctK kvs =>
    obtain ⟨a, xs, rfl, h1, h2⟩ := hd.dctK s
    obtain ⟨κ, q, rfl⟩ := Option.map_eq_some_iff.mp e
    have hv := key1_rp hk q
    subst hv
    refine ⟨a, valV xs κ, rfl, .inl ⟨xs, κ, h1, rfl, rfl⟩, ?_⟩
    have hr := aget_K κ h2
    cases q1 : aget kvs κ <;> cases q2 : valV xs κ <;> simp only [q1, q2] at hr <;> first | exact hr | exact True.intro
  | _ => cases e

/-! ### == -/
theorem RpW.isref {d : D} {v : V} (h : RpW M Z H d v) (s : Sub Z H) (hd : flatD d = false) : ∃ a, v = .ref a := by
  cases d with
  | lst ds => obtain ⟨a, _, e, _⟩ := h.lst s; exact ⟨a, e⟩
  | dctK ds => obtain ⟨a, _, e, _⟩ := h.dctK s; exact ⟨a, e⟩
  | dctT ds => obtain ⟨a, _, e, _⟩ := h.dctT s; exact ⟨a, e⟩
  | tup ds => obtain ⟨a, _, e, _⟩ := h.tup s; exact ⟨a, e⟩
  | ins c ds => obtain ⟨a, _, _, e, _⟩ := h.ofval rfl; exact ⟨a, e⟩
  | _ => cases hd
theorem eqS_rp {dx dy : D} {x y : V} {b : Bool} (hx : RpW M Z H dx x) (hy : RpW M Z H dy y) (e : eqS dx dy = some b) : scal x y = true ∧ decide (x = y) = b := by
  cases dx <;> cases dy <;> first
    | (cases e; done)
    | (first | cases hx.non | cases hx.bl | cases hx.int | cases hx.str) <;> (first | cases hy.non | cases hy.bl | cases hy.int | cases hy.str) <;> (cases e; exact ⟨rfl, by simp⟩)
theorem eqP_rp {dx dy : D} {x y : V} {b : Bool} (s : Sub Z H) (hx : RpW M Z H dx x) (hy : RpW M Z H dy y) (e : eqP dx dy = some b) :
    ∃ p q, Dp M.K H x p ∧ Dp M.K H y q ∧ SeqAt.shaped p = true ∧ SeqAt.shaped q = true ∧ PyData.eqv p q = b := by
  unfold eqP at e
  cases q1 : toPy dx with
  | none => rw [q1] at e; cases e
  | some p =>
    cases q2 : toPy dy with
    | none => rw [q1, q2] at e; cases e
    | some q =>
      rw [q1, q2] at e
      obtain ⟨h, e⟩ := ite_some e
      rw [Bool.and_eq_true] at h
      exact ⟨p, q, hx.dp s q1, hy.dp s q2, h.1, h.2, Option.some.inj e⟩
end

section
variable {M : Mt}
theorem map_some {α β : Type} {x : Option α} {f : α → β} {y : β} (h : x.map f = some y) : ∃ a, x = some a ∧ y = f a := by
  cases x with
  | none => cases h
  | some a => exact ⟨a, rfl, (Option.some.inj h).symm⟩
theorem eq_srv : Srv M .eq (fun x y H Q => rEq x y H Q ∨ rEqD M.K x y H Q) := by
  intro Z H x y dx dy o Q s hx hy e c
  obtain ⟨b, e', ho⟩ := map_some e
  subst ho
  have e : eqD dx dy = some b := e'
  unfold eqD at e
  cases q : eqS dx dy with
  | some b' =>
    rw [q] at e
    cases e
    obtain ⟨h1, h2⟩ := eqS_rp hx hy q
    exact .inl ⟨h1, by rw [h2]; exact c.val s rfl⟩
  | none =>
    rw [q] at e
    obtain ⟨p, r, h1, h2, h3, h4, h5⟩ := eqP_rp s hx hy e
    exact .inr ⟨p, r, h1, h2, h3, h4, by rw [h5]; exact c.val s rfl⟩
theorem ne_srv : Srv M .ne (fun x y H Q => rNe x y H Q ∨ rNeD M.K x y H Q) := by
  intro Z H x y dx dy o Q s hx hy e c
  obtain ⟨b, e', ho⟩ := map_some e
  subst ho
  have e : eqD dx dy = some b := e'
  unfold eqD at e
  cases q : eqS dx dy with
  | some b' =>
    rw [q] at e
    cases e
    obtain ⟨h1, h2⟩ := eqS_rp hx hy q
    exact .inl ⟨h1, by rw [h2]; exact c.val s rfl⟩
  | none =>
    rw [q] at e
    obtain ⟨p, r, h1, h2, h3, h4, h5⟩ := eqP_rp s hx hy e
    exact .inr ⟨p, r, h1, h2, h3, h4, by rw [h5]; exact c.val s rfl⟩
theorem cmpI_srv {p : Pr} {f : Int → Int → Bool} {g : Str → Str → Bool} (hp : ∀ x y, prim p [x, y] = cmpI x y f g) :
    Srv M p (fun x y H Q => rI0 (fun i j => .bl (f i j)) x y H Q ∨ (fun x y H Q => ∃ i j, x = V.str i ∧ y = V.str j ∧ Q (.bl (g i j)) H) x y H Q) := by
  intro Z H x y dx dy o Q s hx hy e c
  rw [hp] at e
  unfold cmpI at e
  split at e
  · cases ob_some e; exact .inl ⟨_, _, hx.int, hy.int, c.val s rfl⟩
  · cases ob_some e; exact .inr ⟨_, _, hx.str, hy.str, c.val s rfl⟩
  · cases e
theorem isND_some {x y : D} {f : Bool → Bool} {o : O} (h : isND x y f = some o) : y = .non ∧ ((x = .non ∧ o = .val (.bl (f true))) ∨ (x ≠ .non ∧ o = .val (.bl (f false)))) := by
  unfold isND at h
  split at h
  · split at h
    · exact ⟨rfl, .inl ⟨rfl, ob_some h⟩⟩
    · rename_i hn
      exact ⟨rfl, .inr ⟨fun e => hn e, ob_some h⟩⟩
  · cases h
theorem keyAll_flat {xs : List D} {vs : List V} {Z : Hp} : RpA M Z xs vs → xs.all flatD = true → vs.all flatV = true := by
  intro h hf
  induction xs generalizing vs with
  | nil => cases h; rfl
  | cons d ds ih =>
    obtain ⟨v, vs, rfl, h1, h2⟩ := h
    rw [List.all_cons, Bool.and_eq_true] at hf ⊢
    refine ⟨?_, ih h2 hf.2⟩
    cases d <;> first | (cases h1; rfl) | exact absurd hf.1 Bool.false_ne_true
theorem eqF_rp {Z H : Hp} {d e : D} {x y : V} (hx : RpW M Z H d x) (hy : RpW M Z H e y) (h1 : flatD d = true) (h2 : flatD e = true) : eqV x y = eqF d e := by
  cases d <;> cases e <;> first
    | exact absurd h1 Bool.false_ne_true
    | exact absurd h2 Bool.false_ne_true
    | (first | cases hx.non | cases hx.bl | cases hx.int | cases hx.str) <;> (first | cases hy.non | cases hy.bl | cases hy.int | cases hy.str) <;> rfl
theorem inF_rp {Z H : Hp} {d : D} {x : V} (hx : RpW M Z H d x) (h1 : flatD d = true) : ∀ {es : List D} {ys : List V}, RpA M Z es ys → es.all flatD = true → inV x ys = inF d es
  | [], _, h, _ => by cases h; rfl
  | e :: es, _, h, hf => by
    obtain ⟨v, vs, rfl, h2, h3⟩ := h
    rw [List.all_cons, Bool.and_eq_true] at hf
    have ih := inF_rp hx h1 h3 hf.2
    unfold inV inF at ih ⊢
    rw [List.any_cons, List.any_cons, ih, eqF_rp (RpW.of h2) hx hf.1 h1]
/-- in: all ways -/
def rInAll (K : PySem.W.Frag) (neg : Bool) : R2 := fun x y H Q => (fun x y H Q => ∃ (c : Nat) (z : Str), x = V.str ⟨#[c]⟩ ∧ y = V.str z ∧ Q (.bl (if neg then !decide (c ∈ z.cps.toList) else decide (c ∈ z.cps.toList))) H) x y H Q ∨
  (fun x y H Q => ∃ i j, x = V.str i ∧ y = V.str j ∧ Q (.bl (if neg then !(!(Builtin.Str.occurrences j i 0 j.length 1).isEmpty) else !(Builtin.Str.occurrences j i 0 j.length 1).isEmpty)) H) x y H Q ∨
  rIn K neg x y H Q ∨ rInA K neg x y H Q ∨ rInDc neg x y H Q
theorem op_inAll {X : Cx} (hu : X.A.units + 65 < cLine) : OpR X (compareOp .In) (rInAll X.K false) := op_in_sign.or (op_in_str.or (op_in_seq.or ((op_inA hu).or (op_inDc hu))))
theorem op_notInAll {X : Cx} (hu : X.A.units + 65 < cLine) : OpR X (compareOp .NotIn) (rInAll X.K true) := op_notIn_sign.or (op_notin_str.or (op_notIn_seq.or ((op_notInA hu).or (op_notInDc hu))))
theorem inL_rp {Z H : Hp} {d y : D} {ys : List D} {x v : V} {b neg : Bool} {Q : VK} (s : Sub Z H) (hx : RpW M Z H d x) (hy : RpW M Z H y v) (he : seqOf y = some ys) (e : inL d ys = some b) (q : Q (.bl (if neg then !b else b)) H) :
    rIn M.K neg x v H Q ∨ rInA M.K neg x v H Q := by
  unfold inL at e
  split at e
  · rename_i hf
    rw [Bool.and_eq_true] at hf
    cases e
    obtain ⟨a, xs, rfl, h1, h2⟩ := hy.seq s he
    refine .inl ⟨a, xs, rfl, h1, ?_, keyAll_flat h2 hf.2, by rw [inF_rp hx hf.1 h2 hf.2]; exact q⟩
    cases d <;> first | (first | cases hx.non | cases hx.bl | cases hx.int | cases hx.str) <;> rfl | exact absurd hf.1 Bool.false_ne_true
  · unfold inP at e
    cases q1 : toPy d with
    | none => rw [q1] at e; cases e
    | some p =>
      cases q2 : toPys ys with
      | none => rw [q1, q2] at e; cases e
      | some ps =>
        rw [q1, q2] at e
        obtain ⟨h, e⟩ := ite_some e
        rw [Bool.and_eq_true] at h
        cases e
        refine .inr ⟨p, ps, hx.dp s q1, ?_, h.1, h.2, q⟩
        cases y with
        | lst zs => cases he; exact .inl (hy.dp s (by unfold toPy; rw [q2]; rfl))
        | tup zs => cases he; exact .inr (hy.dp s (by unfold toPy; rw [q2]; rfl))
        | _ => cases he
theorem isin_gen {Z H : Hp} {dx dy : D} {x y : V} {b neg : Bool} {Q : VK} (s : Sub Z H) (hx : RpW M Z H dx x) (hy : RpW M Z H dy y) (e : isinD dx dy = some b) (q : Q (.bl (if neg then !b else b)) H) : rInAll M.K neg x y H Q := by
  unfold isinD at e
  split at e
  · split at e
    · cases e; exact .inl ⟨_, _, hx.str, hy.str, q⟩
    · cases e; exact .inr (.inl ⟨_, _, hx.str, hy.str, q⟩)
    · cases e
  · rcases inL_rp s hx hy rfl e q with h | h
    · exact .inr (.inr (.inl h))
    · exact .inr (.inr (.inr (.inl h)))
  · rcases inL_rp s hx hy rfl e q with h | h
    · exact .inr (.inr (.inl h))
    · exact .inr (.inr (.inr (.inl h)))
  · obtain ⟨o, e2, rfl⟩ := Option.map_eq_some_iff.mp e
    obtain ⟨a, r, rfl, h1, h2⟩ := dget_rp s hy hx e2
    refine .inr (.inr (.inr (.inr ⟨a, r, rfl, h1, ?_⟩)))
    have : r.isSome = o.isSome := by
      cases o <;> cases r <;> first | rfl | exact (show False from h2).elim
    rw [this]
    exact q
theorem isin_srv : Srv M .isin (rInAll M.K false) := by
  intro Z H x y dx dy o Q s hx hy e c
  obtain ⟨b, e', ho⟩ := map_some e
  subst ho
  exact isin_gen s hx hy e' (c.val s rfl)
theorem notin_srv : Srv M .notin (rInAll M.K true) := by
  intro Z H x y dx dy o Q s hx hy e c
  obtain ⟨b, e', ho⟩ := map_some e
  subst ho
  exact isin_gen s hx hy e' (c.val s rfl)
theorem RpW.isnon {Z H : Hp} {d : D} {v : V} (h : RpW M Z H d v) (s : Sub Z H) (hd : d ≠ .non) : v ≠ .non := by
  intro e
  subst e
  cases hf : flatD d with
  | false => obtain ⟨a, e⟩ := h.isref s hf; cases e
  | true =>
    cases d with
    | non => exact hd rfl
    | bl _ => cases h.bl
    | int _ => cases h.int
    | str _ => cases h.str
    | _ => cases hf
theorem isN_srv : Srv M .isN (fun x y H Q => y = .non ∧ Q (.bl (decide (x = .non))) H) := by
  intro Z H x y dx dy o Q s hx hy e c
  obtain ⟨rfl, ⟨rfl, rfl⟩ | ⟨hn, rfl⟩⟩ := isND_some e
  · refine ⟨hy.non, ?_⟩
    cases hx.non
    exact c.val s rfl
  · refine ⟨hy.non, ?_⟩
    rw [decide_eq_false (hx.isnon s hn)]
    exact c.val s rfl
theorem notN_srv : Srv M .notN (fun x y H Q => y = .non ∧ Q (.bl (!decide (x = .non))) H) := by
  intro Z H x y dx dy o Q s hx hy e c
  obtain ⟨rfl, ⟨rfl, rfl⟩ | ⟨hn, rfl⟩⟩ := isND_some e
  · refine ⟨hy.non, ?_⟩
    cases hx.non
    exact c.val s rfl
  · refine ⟨hy.non, ?_⟩
    rw [decide_eq_false (hx.isnon s hn)]
    exact c.val s rfl
theorem cmp_ok {X : Cx} (hK : X.K = M.K) (hu : X.A.units + 65 < cLine) (p : Pr) (op : CmpOp) (h : cmpOf p = some op) : ∃ r, OpR X (compareOp op) r ∧ Srv M p r := by
  cases p <;> simp only [cmpOf, reduceCtorEq, Option.some.injEq] at h <;> subst h
  case eq => exact ⟨_, op_eq.or (op_eqD (by omega)), by rw [hK]; exact eq_srv⟩
  case ne => exact ⟨_, op_ne.or (op_neD (by omega)), by rw [hK]; exact ne_srv⟩
  case lt => exact ⟨_, op_lt.or op_lt_str, cmpI_srv fun _ _ => rfl⟩
  case le => exact ⟨_, op_le.or op_le_str, cmpI_srv fun _ _ => rfl⟩
  case gt => exact ⟨_, op_gt.or op_gt_str, cmpI_srv fun _ _ => rfl⟩
  case ge => exact ⟨_, op_ge.or op_ge_str, cmpI_srv fun _ _ => rfl⟩
  case isN => exact ⟨_, op_isN, isN_srv⟩
  case notN => exact ⟨_, op_notN, notN_srv⟩
  case isin => exact ⟨_, op_inAll hu, by rw [hK]; exact isin_srv⟩
  case notin => exact ⟨_, op_notInAll hu, by rw [hK]; exact notin_srv⟩
/-- a comparison's value is a truth -/
theorem cmp_bl {p : Pr} {op : CmpOp} (h : cmpOf p = some op) {x y : D} {o : O} (e : prim p [x, y] = some o) : ∃ b, o = .val (.bl b) := by
  cases p <;> simp only [cmpOf, reduceCtorEq] at h
  case eq => obtain ⟨b, _, rfl⟩ := map_some e; exact ⟨_, rfl⟩
  case ne => obtain ⟨b, _, rfl⟩ := map_some e; exact ⟨_, rfl⟩
  case isin => obtain ⟨b, _, rfl⟩ := map_some e; exact ⟨_, rfl⟩
  case notin => obtain ⟨b, _, rfl⟩ := map_some e; exact ⟨_, rfl⟩
  case isN => obtain ⟨_, ⟨_, e⟩ | ⟨_, e⟩⟩ := isND_some e <;> exact ⟨_, e⟩
  case notN => obtain ⟨_, ⟨_, e⟩ | ⟨_, e⟩⟩ := isND_some e <;> exact ⟨_, e⟩
  all_goals
    have e : cmpI x y _ _ = some o := e
    unfold cmpI at e
    split at e <;> first | exact ⟨_, ob_some e⟩ | cases e
end
end EV

namespace EV
open PyProof.Rows PySem L2 PySem.Spec

section
variable {M : Mt} {Z H Z' H' : Hp} {σ : L2.St} {ρ ρ' ρ1 ρ2 : Env} {φ φ' φ2 : Nat → List Addr} {P R : Addr → Prop}
theorem EOk.less (e : EOk M Z H σ ρ φ) (hl : ρ'.length = ρ.length) (h : ∀ i o, getS ρ' i = some o → getS ρ i = some o) : EOk M Z H σ ρ' φ :=
  ⟨e.sub, e.len.trans hl.symm, fun i o hi => e.hold i o (h i o hi), fun a ⟨i, o, hi, hm⟩ => e.out a ⟨i, o, h i o hi, hm⟩, fun i j o u a h1 h2 => e.dis i j o u a (h i o h1) (h j u h2)⟩
theorem Own.less {a : Addr} (h : ∀ i o, getS ρ' i = some o → getS ρ i = some o) (x : Own ρ' φ a) : Own ρ φ a := let ⟨i, o, hi, hm⟩ := x; ⟨i, o, h i o hi, hm⟩
theorem set_less {i : Nat} : ∀ j o, getS (setS ρ i none) j = some o → getS ρ j = some o := fun j o h => by
  rcases getS_set_some h with ⟨_, z⟩ | ⟨_, h⟩
  · cases z
  · exact h
theorem Own.alloc {a : Addr} (e : EOk M Z H σ ρ φ) (x : Own ρ φ a) : ∃ u, H a = some u := by
  obtain ⟨i, o, hi, hm⟩ := x
  obtain ⟨v, _, r⟩ := e.hold i o hi
  exact r.alloc a hm
/-- what is owned by others stands through a step -/
theorem EOk.through {Q : Addr → Prop} (e : EOk M Z H σ ρ φ) (st : Stp Z H P Z' H' Q) (sub : Sub Z' H') (d : ∀ a, Own ρ φ a → ¬ P a) : EOk M Z' H' σ ρ φ := by
  refine ⟨sub, e.len, fun i o hi => ?_, fun a ha => ?_, e.dis⟩
  · obtain ⟨v, h1, h2⟩ := e.hold i o hi
    exact ⟨v, h1, h2.keep st.zz fun a hm u q => st.ch a u q (d a ⟨i, o, hi, hm⟩)⟩
  · have h0 := e.out a ha
    cases q : Z' a with
    | none => rfl
    | some u =>
      rcases st.zn a (by rw [q]; exact fun z => nomatch z) with h | h | h
      · exact absurd h0 h
      · exact absurd h (d a ha)
      · obtain ⟨u, hu⟩ := ha.alloc e
        rw [hu] at h; cases h
/-- a slot set anew -/
theorem EOk.set {i : Nat} {o : O} {v : V} {f : List Addr} (e : EOk M Z H σ ρ φ) (r : RpO M Z H o v f) (hi : i < ρ.length) (hf : ∀ a ∈ f, Z a = none ∧ ∀ j u, j ≠ i → getS ρ j = some u → a ∉ φ j) :
    EOk M Z H (σ.set i (some v)) (setS ρ i (some o)) (fun j => if j = i then f else φ j) := by
  refine ⟨e.sub, by rw [List.length_set, setS_length]; exact e.len, fun j u hj => ?_, fun a ⟨j, u, hj, hm⟩ => ?_, fun j k u w a hj hk mj mk => ?_⟩
  · rcases getS_set_some hj with ⟨rfl, z⟩ | ⟨ne, hj⟩
    · cases z
      exact ⟨v, by rw [List.getElem?_set_self (by rw [e.len]; exact hi)], by simpa using r⟩
    · obtain ⟨w, h1, h2⟩ := e.hold j u hj
      refine ⟨w, by rw [List.getElem?_set_ne (Ne.symm ne)]; exact h1, ?_⟩
      simpa [ne] using h2
  · rcases getS_set_some hj with ⟨rfl, z⟩ | ⟨ne, hj⟩
    · simp at hm; exact (hf a hm).1
    · simp [ne] at hm; exact e.out a ⟨j, u, hj, hm⟩
  · rcases getS_set_some hj with ⟨ej, z⟩ | ⟨ne, hj⟩
    · rcases getS_set_some hk with ⟨ek, z'⟩ | ⟨ne', hk⟩
      · rw [ej, ek]
      · simp [ej] at mj; simp [ne'] at mk; exact absurd mk ((hf a mj).2 k w ne' hk)
    · rcases getS_set_some hk with ⟨ek, z'⟩ | ⟨ne', hk⟩
      · simp [ek] at mk; simp [ne] at mj; exact absurd mj ((hf a mk).2 j u ne hj)
      · simp [ne] at mj; simp [ne'] at mk; exact e.dis j k u w a hj hk mj mk
theorem Own.set {i : Nat} {o : Option O} {f : List Addr} {a : Addr} (x : Own (setS ρ i o) (fun j => if j = i then f else φ j) a) : a ∈ f ∨ Own ρ φ a := by
  obtain ⟨j, u, hj, hm⟩ := x
  rcases getS_set_some hj with ⟨rfl, z⟩ | ⟨ne, hj⟩
  · simp at hm; exact .inl hm
  · simp [ne] at hm; exact .inr ⟨j, u, hj, hm⟩

/-! ### arguments -/
/-- the arguments' values: by reference what stands in the slot -/
def ArgR (M : Mt) (σ : L2.St) (Z : Hp) : List E → List D → List V → Prop
  | [], [], vs => vs = []
  | e :: es, d :: ds, vs => ∃ v ws, vs = v :: ws ∧ (match e with | .rf i => σ[i]? = some (some v) | _ => Rp M Z d v) ∧ ArgR M σ Z es ds ws
  | _, _, _ => False
theorem ArgR.mono {Z Z' : Hp} (s : Sub Z Z') : ∀ {es : List E} {ds : List D} {vs : List V}, ArgR M σ Z es ds vs → ArgR M σ Z' es ds vs
  | [], [], _, h => h
  | [], _ :: _, _, h => h
  | _ :: _, [], _, h => h
  | e :: es, d :: ds, vs, h => by
    obtain ⟨v, ws, h1, h2, h3⟩ := h
    refine ⟨v, ws, h1, ?_, h3.mono s⟩
    cases e <;> first | exact h2 | exact Rp.mono s _ _ h2
variable {G : List D} {CL : List (List Nat)} {C : CallF}
theorem args_ok : ∀ (es : List E) {Z H : Hp} {ρ ρ' : Env} {φ : Nat → List Addr} {ds : List D} {K : List V → Hp → Prop}, EOk M Z H σ ρ φ → evA G CL C es ρ = some (ds, ρ') →
    (∀ vs Z' H' φ', Stp Z H (Own ρ φ) Z' H' (Own ρ' φ') → EOk M Z' H' σ ρ' φ' → ArgR M σ Z' es ds vs → K vs H') → nest (es.map (rdA M G CL C)) σ H K
  | [], Z, H, ρ, ρ', φ, ds, K, e, h, k => by
    simp only [evA, Option.some.injEq, Prod.mk.injEq] at h
    obtain ⟨rfl, rfl⟩ := h
    exact k [] Z H φ .refl e rfl
  | x :: es, Z, H, ρ, ρ', φ, ds, K, e, h, k => by
    by_cases hb : ∃ i, x = .rf i
    · obtain ⟨i, rfl⟩ := hb
      unfold evA at h
      simp only at h
      cases q0 : getS ρ i with
      | none => rw [q0] at h; cases h
      | some o0 =>
      rw [q0] at h
      simp only at h
      cases q2 : evA G CL C es ρ with
      | none => rw [q2] at h; cases h
      | some p2 =>
        obtain ⟨ds2, ρ2⟩ := p2
        rw [q2] at h
        simp only [Option.some.injEq, Prod.mk.injEq] at h
        obtain ⟨rfl, rfl⟩ := h
        obtain ⟨v, hv, _⟩ := e.hold i o0 q0
        refine ⟨v, hv, ?_⟩
        refine args_ok es e q2 fun vs Z3 H3 φ3 st3 e3 ra => ?_
        exact k (v :: vs) Z3 H3 φ3 st3 e3 ⟨v, vs, rfl, hv, ra⟩
    · have hd : rdA M G CL C x = tM M (ev G CL C x false) := by
        cases x <;> first | rfl | exact absurd ⟨_, rfl⟩ hb
      have h' : (match ev G CL C x false ρ with
          | none => none
          | some (o, ρ1) => match evA G CL C es ρ1 with
            | none => none
            | some (ds, ρ') => some (o.frz :: ds, ρ')) = some (ds, ρ') := by
        cases x <;> first | exact h | exact absurd ⟨_, rfl⟩ hb
      cases q1 : ev G CL C x false ρ with
      | none => rw [q1] at h'; cases h'
      | some p =>
        obtain ⟨o, ρ1⟩ := p
        rw [q1] at h'
        simp only at h'
        cases q2 : evA G CL C es ρ1 with
        | none => rw [q2] at h'; cases h'
        | some p2 =>
          obtain ⟨ds2, ρ2⟩ := p2
          rw [q2] at h'
          simp only [Option.some.injEq, Prod.mk.injEq] at h'
          obtain ⟨rfl, rfl⟩ := h'
          show nest (rdA M G CL C x :: es.map (rdA M G CL C)) σ H K
          rw [hd]
          refine ⟨Z, ρ, φ, o, ρ1, e, q1, fun v Z1 H1 φ1 f st e1 r hf => ?_⟩
          obtain ⟨Z2, st2, e2, rp⟩ := frozen st e1 r hf
          refine args_ok es e2 q2 fun vs Z3 H3 φ3 st3 e3 ra => ?_
          refine k (v :: vs) Z3 H3 φ3 (st2.trans st3) e3 ⟨v, vs, rfl, ?_, ra⟩
          cases x <;> first | exact Rp.mono st3.zz _ _ rp | exact absurd ⟨_, rfl⟩ hb
theorem getS_map {os : List O} {i : Nat} : getS (os.map some) i = os[i]? := by
  induction os generalizing i with
  | nil => simp [getS]
  | cons o os ih => cases i <;> simp [getS, ih]
/-- one argument ahead -/
theorem EOk.cons {vs : List V} {os : List O} {o : O} {v : V} {f : List Addr} (e : EOk M Z H (vs.map some) (os.map some) φ) (r : RpO M Z H o v f) (hf : ∀ a ∈ f, Z a = none ∧ ¬ Own (os.map some) φ a) :
    EOk M Z H ((v :: vs).map some) ((o :: os).map some) (fun j => match j with | 0 => f | j + 1 => φ j) := by
  refine ⟨e.sub, by simpa using e.len, fun j u hj => ?_, fun a ⟨j, u, hj, hm⟩ => ?_, fun j k u w a hj hk mj mk => ?_⟩
  · cases j with
    | zero => simp [getS] at hj; subst hj; exact ⟨v, rfl, r⟩
    | succ j => obtain ⟨w, h1, h2⟩ := e.hold j u hj; exact ⟨w, by simpa using h1, h2⟩
  · cases j with
    | zero => exact (hf a hm).1
    | succ j => exact e.out a ⟨j, u, hj, hm⟩
  · cases j with
    | zero =>
      cases k with
      | zero => rfl
      | succ k => exact absurd ⟨k, w, hk, mk⟩ (hf a mj).2
    | succ j =>
      cases k with
      | zero => exact absurd ⟨j, u, hj, mj⟩ (hf a mk).2
      | succ k => rw [e.dis j k u w a hj hk mj mk]
theorem Own.cons {os : List O} {o : O} {f : List Addr} {a : Addr} (x : Own ((o :: os).map some) (fun j => match j with | 0 => f | j + 1 => φ j) a) : a ∈ f ∨ Own (os.map some) φ a := by
  obtain ⟨j, u, hj, hm⟩ := x
  cases j with
  | zero => exact .inl hm
  | succ j => exact .inr ⟨j, u, hj, hm⟩
theorem take_ok : ∀ (es : List E) {ds : List D} {vs : List V} {ρ1 ρ2 : Env} {os : List O}, ArgR M σ Z es ds vs → takeA es ds ρ1 = some (os, ρ2) → EOk M Z H σ ρ1 φ →
    ∃ φa, EOk M Z H (vs.map some) (os.map some) φa ∧ EOk M Z H σ ρ2 φ ∧ (∀ i o, getS ρ2 i = some o → getS ρ1 i = some o) ∧ (∀ a, Own (os.map some) φa a → Own ρ1 φ a ∧ ¬ Own ρ2 φ a)
  | [], [], vs, ρ1, ρ2, os, ha, h, e => by
    cases h
    cases ha
    exact ⟨fun _ => [], ⟨e.sub, rfl, fun i o h => by simp [getS] at h, fun a ⟨i, o, h, _⟩ => by simp [getS] at h, fun i j o u a h => by simp [getS] at h⟩, e, fun _ _ h => h, fun a ⟨i, o, h, _⟩ => by simp [getS] at h⟩
  | [], _ :: _, _, _, _, _, ha, _, _ => ha.elim
  | _ :: _, [], _, _, _, _, ha, _, _ => ha.elim
  | x :: es, d :: ds, vs, ρ1, ρ2, os, ha, h, e => by
    obtain ⟨v, ws, rfl, hv, ha⟩ := ha
    by_cases hb : ∃ i, x = .rf i
    · obtain ⟨i, rfl⟩ := hb
      unfold takeA at h
      cases q0 : getS ρ1 i with
      | none => rw [q0] at h; cases h
      | some o =>
        rw [q0] at h
        simp only at h
        cases q1 : takeA es ds (setS ρ1 i none) with
        | none => rw [q1] at h; cases h
        | some p =>
          obtain ⟨os', ρ'⟩ := p
          rw [q1] at h
          simp only [Option.some.injEq, Prod.mk.injEq] at h
          obtain ⟨rfl, rfl⟩ := h
          have e1 : EOk M Z H σ (setS ρ1 i none) φ := e.less (setS_length _ _ _) set_less
          obtain ⟨φa, h1, h2, h3, h4⟩ := take_ok es ha q1 e1
          obtain ⟨v', hv', r⟩ := e.hold i o q0
          have hv : σ[i]? = some (some v) := hv
          rw [hv] at hv'
          cases hv'
          have no : ∀ a, a ∈ φ i → ¬ Own (setS ρ1 i none) φ a := fun a hm ⟨j, u, hj, hm'⟩ => by
            rcases getS_set_some hj with ⟨_, z⟩ | ⟨ne, hj⟩
            · cases z
            · exact ne (e.dis j i u o a hj q0 hm' hm)
          refine ⟨_, h1.cons r fun a hm => ⟨e.out a ⟨i, o, q0, hm⟩, fun z => no a hm (h4 a z).1⟩, h2, fun j u hj => set_less j u (h3 j u hj), fun a z => ?_⟩
          rcases z.cons with z | z
          · exact ⟨⟨i, o, q0, z⟩, fun w => no a z (w.less h3)⟩
          · exact ⟨(h4 a z).1.less set_less, (h4 a z).2⟩
    · have hv : Rp M Z d v := by cases x <;> first | exact hv | exact absurd ⟨_, rfl⟩ hb
      have h' : (match takeA es ds ρ1 with
          | none => none
          | some (os, ρ') => some (O.val d :: os, ρ')) = some (os, ρ2) := by
        cases x <;> first | exact h | exact absurd ⟨_, rfl⟩ hb
      cases q1 : takeA es ds ρ1 with
      | none => rw [q1] at h'; cases h'
      | some p =>
        obtain ⟨os', ρ'⟩ := p
        rw [q1] at h'
        simp only [Option.some.injEq, Prod.mk.injEq] at h'
        obtain ⟨rfl, rfl⟩ := h'
        obtain ⟨φa, h1, h2, h3, h4⟩ := take_ok es ha q1 e
        refine ⟨_, h1.cons (f := []) (o := .val d) ⟨rfl, hv⟩ (fun a hm => absurd hm (by simp)), h2, h3, fun a z => ?_⟩
        rcases z.cons with z | z
        · cases z
        · exact h4 a z
/-- the slots that are handed back -/
def maskE : List E → List (Option O) → List (Option O)
  | .rf _ :: es, o :: os => o :: maskE es os
  | _ :: es, _ :: os => none :: maskE es os
  | _, _ => []
theorem give_ok : ∀ (es : List E) {ds : List D} {vs : List V} {ps : List (Option O)} {ρ2 : Env} {φ2 φp : Nat → List Addr}, ArgR M σ Z es ds vs → EOk M Z' H' σ ρ2 φ2 → EOk M Z' H' (vs.map some) (maskE es ps) φp →
    (∀ a, Own (maskE es ps) φp a → ¬ Own ρ2 φ2 a) → ∃ φ3, EOk M Z' H' σ (giveA es ps ρ2) φ3 ∧ ∀ a, Own (giveA es ps ρ2) φ3 a → Own ρ2 φ2 a ∨ Own (maskE es ps) φp a
  | [], ds, vs, ps, ρ2, φ2, φp, ha, e, ep, d => by
    cases ps <;> exact ⟨φ2, e, fun a h => .inl h⟩
  | x :: es, [], _, _, _, _, _, ha, _, _, _ => ha.elim
  | x :: es, y :: ds, vs, ps, ρ2, φ2, φp, ha, e, ep, d => by
    obtain ⟨v, ws, rfl, hv, ha⟩ := ha
    cases ps with
    | nil => cases x <;> exact ⟨φ2, e, fun a h => .inl h⟩
    | cons o ps =>
      by_cases hb : ∃ i, x = .rf i
      · obtain ⟨i, rfl⟩ := hb
        have hv : σ[i]? = some (some v) := hv
        have ep' : EOk M Z' H' (ws.map some) (maskE es ps) (fun j => φp (j + 1)) :=
          ⟨ep.sub, by have := ep.len; simpa [maskE] using this, fun j u hj => by
            obtain ⟨w, h1, h2⟩ := ep.hold (j + 1) u hj
            exact ⟨w, by simpa using h1, h2⟩, fun a ⟨j, u, hj, hm⟩ => ep.out a ⟨j + 1, u, hj, hm⟩, fun j k u w a hj hk mj mk => by
            have := ep.dis (j + 1) (k + 1) u w a hj hk mj mk
            omega⟩
        cases o with
        | none =>
          have e1 : EOk M Z' H' σ (setS ρ2 i none) φ2 := e.less (setS_length _ _ _) set_less
          obtain ⟨φ3, h1, h2⟩ := give_ok es ha e1 ep' fun a ⟨j, u, hj, hm⟩ z => d a ⟨j + 1, u, hj, hm⟩ (z.less set_less)
          refine ⟨φ3, h1, fun a z => ?_⟩
          rcases h2 a z with z | ⟨j, u, hj, hm⟩
          · exact .inl (z.less set_less)
          · exact .inr ⟨j + 1, u, hj, hm⟩
        | some o =>
          obtain ⟨v', hv', r⟩ := ep.hold 0 o rfl
          simp at hv'
          subst hv'
          have hi : i < ρ2.length := by
            rw [← e.len]
            exact (List.getElem?_eq_some_iff.mp hv).1
          have e1 := e.set (i := i) r hi fun a hm => ⟨ep.out a ⟨0, o, rfl, hm⟩, fun j u ne hj hm' => d a ⟨0, o, rfl, hm⟩ ⟨j, u, hj, hm'⟩⟩
          have hs : σ.set i (some v) = σ := by
            apply List.ext_getElem?
            intro j
            by_cases ej : i = j
            · subst ej
              rw [List.getElem?_set_self (by rw [e.len]; exact hi), hv]
            · rw [List.getElem?_set_ne ej]
          rw [hs] at e1
          obtain ⟨φ3, h1, h2⟩ := give_ok es ha e1 ep' fun a ⟨j, u, hj, hm⟩ z => by
            rcases z.set with z | z
            · have := ep.dis (j + 1) 0 u o a hj rfl hm z
              omega
            · exact d a ⟨j + 1, u, hj, hm⟩ z
          refine ⟨φ3, h1, fun a z => ?_⟩
          rcases h2 a z with z | ⟨j, u, hj, hm⟩
          · rcases z.set with z | z
            · exact .inr ⟨0, o, rfl, z⟩
            · exact .inl z
          · exact .inr ⟨j + 1, u, hj, hm⟩
      · have hm : maskE (x :: es) (o :: ps) = none :: maskE es ps := by cases x <;> first | rfl | exact absurd ⟨_, rfl⟩ hb
        have hg : giveA (x :: es) (o :: ps) ρ2 = giveA es ps ρ2 := by cases x <;> first | rfl | exact absurd ⟨_, rfl⟩ hb
        rw [hm] at ep d ⊢
        rw [hg]
        have ep' : EOk M Z' H' (ws.map some) (maskE es ps) (fun j => φp (j + 1)) :=
          ⟨ep.sub, by have := ep.len; simpa [maskE] using this, fun j u hj => by
            obtain ⟨w, h1, h2⟩ := ep.hold (j + 1) u hj
            exact ⟨w, by simpa using h1, h2⟩, fun a ⟨j, u, hj, hm⟩ => ep.out a ⟨j + 1, u, hj, hm⟩, fun j k u w a hj hk mj mk => by
            have := ep.dis (j + 1) (k + 1) u w a hj hk mj mk
            omega⟩
        obtain ⟨φ3, h1, h2⟩ := give_ok es ha e ep' fun a ⟨j, u, hj, hm⟩ z => d a ⟨j + 1, u, hj, hm⟩ z
        refine ⟨φ3, h1, fun a z => ?_⟩
        rcases h2 a z with z | ⟨j, u, hj, hm⟩
        · exact .inl z
        · exact .inr ⟨j + 1, u, hj, hm⟩
/-- what a def promises: the parameters that are told in refs stand in their slots at the end -/
def maskR : List Bool → List (Option O) → List (Option O)
  | true :: bs, o :: os => o :: maskR bs os
  | false :: bs, _ :: os => none :: maskR bs os
  | _, _ => []
def spF (M : Mt) (C : CallF) (f : Nat) (refs : List Bool) : Sp := fun vs H Q _ => ∃ Z os φ r ps, vs.length = refs.length ∧ EOk M Z H (vs.map some) (os.map some) φ ∧ C f os = some (r, ps) ∧ ps.length = refs.length ∧
  Post M Z H (os.map some) φ (vs.map some) r (maskR refs ps) Q
/-- the call's own slots are told by reference -/
def refsOk : List E → List Bool → Bool
  | [], [] => true
  | .rf _ :: es, b :: bs => b && refsOk es bs
  | _ :: es, _ :: bs => refsOk es bs
  | _, _ => false
theorem refsOk_len : ∀ {es : List E} {bs : List Bool}, refsOk es bs = true → es.length = bs.length
  | [], [], _ => rfl
  | [], _ :: _, h => by cases h
  | x :: es, [], h => by cases x <;> cases h
  | x :: es, b :: bs, h => by
    have h' : refsOk es bs = true := by
      cases x <;> first | exact h | (unfold refsOk at h; rw [Bool.and_eq_true] at h; exact h.2)
    simp [refsOk_len h']
theorem refsOk_mask : ∀ {es : List E} {bs : List Bool} {ps : List (Option O)}, refsOk es bs = true → ps.length = bs.length → (maskE es ps).length = (maskR bs ps).length ∧ ∀ i o, getS (maskE es ps) i = some o → getS (maskR bs ps) i = some o
  | [], [], [], _, _ => ⟨rfl, fun _ _ h => h⟩
  | [], [], _ :: _, _, h => by cases h
  | [], _ :: _, _, h, _ => by cases h
  | x :: es, [], _, h, _ => by cases x <;> cases h
  | x :: es, b :: bs, [], h, hl => by cases hl
  | x :: es, b :: bs, p :: ps, h, hl => by
    have hl' : ps.length = bs.length := by simpa using hl
    by_cases hb : ∃ i, x = .rf i
    · obtain ⟨i, rfl⟩ := hb
      unfold refsOk at h
      rw [Bool.and_eq_true] at h
      obtain ⟨rfl, h⟩ := h
      obtain ⟨h1, h2⟩ := refsOk_mask h hl'
      refine ⟨by simp [maskE, maskR, h1], fun i o hi => ?_⟩
      cases i with
      | zero => exact hi
      | succ i => exact h2 i o hi
    · have h : refsOk es bs = true := by cases x <;> first | exact h | exact absurd ⟨_, rfl⟩ hb
      have hm : maskE (x :: es) (p :: ps) = none :: maskE es ps := by cases x <;> first | rfl | exact absurd ⟨_, rfl⟩ hb
      obtain ⟨h1, h2⟩ := refsOk_mask h hl'
      rw [hm]
      refine ⟨by cases b <;> simp [maskR, h1], fun i o hi => ?_⟩
      cases i with
      | zero => simp [getS] at hi
      | succ i => cases b <;> exact h2 i o hi
theorem ArgR.len : ∀ {es : List E} {ds : List D} {vs : List V}, ArgR M σ Z es ds vs → vs.length = es.length
  | [], [], _, h => by cases h; rfl
  | [], _ :: _, _, h => h.elim
  | _ :: _, [], _, h => h.elim
  | e :: es, d :: ds, vs, h => by
    obtain ⟨v, ws, rfl, _, h3⟩ := h
    simp [h3.len]
/-- a call's reading -/
theorem call_ok {es : List E} {refs : List Bool} {f : Nat} {ds : List D} {os : List O} {r : O} {ps : List (Option O)} {Q : VK} {E : XK} {ρ0 : Env} {φ0 : Nat → List Addr} {Z0 H0 : Hp} (e : EOk M Z0 H0 σ ρ0 φ0) (h1 : evA G CL C es ρ0 = some (ds, ρ1)) (h2 : takeA es ds ρ1 = some (os, ρ2)) (h3 : C f os = some (r, ps))
    (hr : refsOk es refs = true) (hp : ps.length = refs.length) (q : Post M Z0 H0 ρ0 φ0 σ r (giveA es ps ρ2) Q) : nest (es.map (rdA M G CL C)) σ H0 (fun vs H1 => spF M C f refs vs H1 Q E) := by
  refine args_ok es e h1 fun vs Z1 H1 φ1 st1 e1 ra => ?_
  obtain ⟨φa, a1, a2, a3, a4⟩ := take_ok es ra h2 e1
  refine ⟨Z1, os, φa, r, ps, ra.len.trans (refsOk_len hr), a1, h3, hp, fun v Z' H' φ' f st e' rr hf => ?_⟩
  obtain ⟨m1, m2⟩ := refsOk_mask hr hp
  have ep : EOk M Z' H' (vs.map some) (maskE es ps) φ' := e'.less m1 m2
  have eo : EOk M Z' H' σ ρ2 φ1 := a2.through st e'.sub fun a z w => (a4 a w).2 z
  -- what comes back is not the caller's other
  have ds' : ∀ a, Own (maskR refs ps) φ' a ∨ a ∈ f → ¬ Own ρ2 φ1 a := fun a z w => by
    rcases st.ow a z with z | z
    · exact (a4 a z).2 w
    · obtain ⟨u, hu⟩ := w.alloc a2
      rw [hu] at z; cases z
  obtain ⟨φ3, g1, g2⟩ := give_ok es (ra.mono st.zz) eo ep fun a z => ds' a (.inl (z.less m2))
  refine q v Z' H' φ3 f (st1.trans ⟨st.zz, fun a o h hn => st.ch a o h fun z => hn (a4 a z).1, st.al, fun a h => (st.zn a h).elim .inl fun z => .inr (z.elim (fun z => .inl (a4 a z).1) .inr), fun a z => ?_⟩) g1 rr fun a ha => ⟨(hf a ha).1, fun z => ?_⟩
  · have back : Own (maskR refs ps) φ' a ∨ a ∈ f → Own ρ1 φ1 a ∨ H1 a = none := fun z => (st.ow a z).imp_left fun z => (a4 a z).1
    rcases z with z | z
    · rcases g2 a z with z | z
      · exact .inl (z.less a3)
      · exact back (.inl (z.less m2))
    · exact back (.inr z)
  · rcases g2 a z with z | z
    · exact ds' a (.inr ha) z
    · exact (hf a ha).2 (z.less m2)
theorem EOk.tail {vs : List V} {v : V} {o : Option O} {ρ : Env} (e : EOk M Z H ((v :: vs).map some) (o :: ρ) φ) : EOk M Z H (vs.map some) ρ (fun j => φ (j + 1)) :=
  ⟨e.sub, by have := e.len; simpa using this, fun j u hj => by
    obtain ⟨w, h1, h2⟩ := e.hold (j + 1) u hj
    exact ⟨w, by simpa using h1, h2⟩, fun a ⟨j, u, hj, hm⟩ => e.out a ⟨j + 1, u, hj, hm⟩, fun j k u w a hj hk mj mk => by
    have := e.dis (j + 1) (k + 1) u w a hj hk mj mk
    omega⟩
theorem Own.tail {o : Option O} {ρ : Env} {a : Addr} (x : Own ρ (fun j => φ (j + 1)) a) : Own (o :: ρ) φ a := let ⟨j, u, hj, hm⟩ := x; ⟨j + 1, u, hj, hm⟩
/-- a call with a value ahead of the written arguments -/
theorem callH_ok {es : List E} {refs : List Bool} {f : Nat} {ds : List D} {os : List O} {r : O} {ps : List (Option O)} {Q : VK} {E : XK} {ρ0 : Env} {φ0 : Nat → List Addr} {Z0 H0 : Hp} {d0 : D} {v0 : V} (e : EOk M Z0 H0 σ ρ0 φ0) (r0 : Rp M Z0 d0 v0) (h1 : evA G CL C es ρ0 = some (ds, ρ1)) (h2 : takeA es ds ρ1 = some (os, ρ2)) (h3 : C f (.val d0 :: os) = some (r, ps))
    (hr : refsOk es refs = true) (hp : ps.length = refs.length + 1) (q : Post M Z0 H0 ρ0 φ0 σ r (giveA es ps.tail ρ2) Q) : nest (es.map (rdA M G CL C)) σ H0 (fun vs H1 => spF M C f (false :: refs) (v0 :: vs) H1 Q E) := by
  refine args_ok es e h1 fun vs Z1 H1 φ1 st1 e1 ra => ?_
  obtain ⟨φa, a1, a2, a3, a4⟩ := take_ok es ra h2 e1
  match ps, hp, h3, q with
  | p0 :: ps, hp, h3, q =>
  have hp : ps.length = refs.length := by simpa using hp
  have b1 := a1.cons (f := []) (o := .val d0) (v := v0) ⟨rfl, Rp.mono st1.zz _ _ r0⟩ (fun a ha => absurd ha (by simp))
  have b4 : ∀ a, Own ((O.val d0 :: os).map some) (fun j => match j with | 0 => [] | j + 1 => φa j) a → Own ρ1 φ1 a ∧ ¬ Own ρ2 φ1 a := fun a z => by
    rcases z.cons with z | z
    · cases z
    · exact a4 a z
  refine ⟨Z1, .val d0 :: os, _, r, p0 :: ps, by simp [ra.len, refsOk_len hr], b1, h3, by simp [hp], fun v Z' H' φ' f st e' rr hf => ?_⟩
  obtain ⟨m1, m2⟩ := refsOk_mask hr hp
  have e'' : EOk M Z' H' (vs.map some) (maskR refs ps) (fun j => φ' (j + 1)) := e'.tail
  have ep : EOk M Z' H' (vs.map some) (maskE es ps) (fun j => φ' (j + 1)) := e''.less m1 m2
  have eo : EOk M Z' H' σ ρ2 φ1 := a2.through st e'.sub fun a z w => (b4 a w).2 z
  have ds' : ∀ a, Own (maskR (false :: refs) (p0 :: ps)) φ' a ∨ a ∈ f → ¬ Own ρ2 φ1 a := fun a z w => by
    rcases st.ow a z with z | z
    · exact (b4 a z).2 w
    · obtain ⟨u, hu⟩ := w.alloc a2
      rw [hu] at z; cases z
  have up : ∀ a, Own (maskE es ps) (fun j => φ' (j + 1)) a → Own (maskR (false :: refs) (p0 :: ps)) φ' a := fun a z => (z.less m2).tail
  obtain ⟨φ3, g1, g2⟩ := give_ok es (ra.mono st.zz) eo ep fun a z => ds' a (.inl (up a z))
  refine q v Z' H' φ3 f (st1.trans ⟨st.zz, fun a o h hn => st.ch a o h fun z => hn (b4 a z).1, st.al, fun a h => (st.zn a h).elim .inl fun z => .inr (z.elim (fun z => .inl (b4 a z).1) .inr), fun a z => ?_⟩) g1 rr fun a ha => ⟨(hf a ha).1, fun z => ?_⟩
  · have back : Own (maskR (false :: refs) (p0 :: ps)) φ' a ∨ a ∈ f → Own ρ1 φ1 a ∨ H1 a = none := fun z => (st.ow a z).imp_left fun z => (b4 a z).1
    rcases z with z | z
    · rcases g2 a z with z | z
      · exact .inl (z.less a3)
      · exact back (.inl (up a z))
    · exact back (.inr z)
  · rcases g2 a z with z | z
    · exact ds' a (.inr ha) z
    · exact (hf a ha).2 (up a z)
end
end EV

namespace EV
open PyProof.Rows PySem L2 PySem.Spec

/-! ### the text's names -/
structure FnS where
  nm : Str
  meth : Bool
  cls : Nat
  ps : List Str
  refs : List Bool
structure Stat where
  glb : List Str
  fns : List FnS
  fnm : List Str
  cnm : List Str
structure Sc where
  N : List Str
  sc : Scope
  fnB : Str → Bool
  fx : List Nat
def okName (x : Str) : Bool := !(x == ("__debug__" : Str)) && !(x == ("__classdict__" : Str)) && !(x == ("__name__" : Str))
def vis (s : Sc) (i : Nat) (x : Str) : Bool := decide (s.N[i]? = some x) && okName x && (match s.sc.names.lookup x with | some .local => true | some .cell => true | some .free => true | _ => false)
def loc (s : Sc) (i : Nat) (x : Str) : Bool := decide (s.N[i]? = some x) && (match s.sc.names.lookup x with | some .local => true | some .cell => s.fnB x | _ => false) && !s.fx.contains i
def gl (s : Sc) (x : Str) : Bool := okName x && (match s.sc.names.lookup x with | some .globalImplicit => true | _ => false)
def notStar : Expr → Bool
  | .Starred _ _ => false
  | _ => true
def notSlice : Expr → Bool
  | .Slice _ _ _ _ => false
  | _ => true
/-- its truth is its value's -/
def okTruth : Expr → Bool
  | .UnaryOp .Not _ _ => false
  | .BoolOp _ _ _ => false
  | .IfExp _ _ _ _ => false
  | .Compare _ _ _ _ => false
  | _ => true
def okBase : Expr → Bool
  | .Call (.Name x _) [] [] _ => x != ("super" : Str)
  | _ => true
def notSet : Expr → Bool
  | .Set _ _ _ => false
  | _ => true
def biOf : Pr → Option Str
  | .len => some "len" | .sum => some "sum" | .all => some "all" | .any => some "any" | .min2 => some "min" | .max2 => some "max" | _ => none
def tyOf : Pr → Option Str
  | .int => some "int" | .str => some "str" | .list => some "list" | .tuple => some "tuple" | _ => none
def meOf : Pr → Option Str
  | .join => some "join" | .split => some "split" | _ => none
def tyNm : Nat → Option Str
  | 0 => some "str" | 1 => some "int" | 2 => some "tuple" | 3 => some "list" | 4 => some "bool" | 5 => some "dict" | _ => none
def bltNames : List Str := ["len", "sum", "all", "any", "min", "max", "int", "str", "list", "tuple", "bool", "dict", "isinstance", "range", "enumerate", "zip", "reversed"]
def mLit : D → Const → Bool
  | .non, .none => true
  | .bl b, .bool c => b == c
  | .int i, .int j => decide (i = j)
  | .str x, .str y => decide (x = y)
  | _, _ => false
def notLc : Expr → Bool
  | .ListComp _ _ _ _ => false
  | .SetComp _ _ _ _ => false
  | .DictComp _ _ _ _ _ => false
  | _ => true
def notTup : Expr → Bool
  | .Tuple _ _ _ => false
  | _ => true
def augOf : Pr → Option Operator
  | .add => some .Add
  | .sub => some .Sub
  | _ => none
def nBw : E → Bool
  | .bw _ => false
  | _ => true
def opShape (T : Stat) (s : Sc) (p : Pr) (es : List E) : Expr → Option (List Expr)
  | .BinOp a op b _ => if binOf p = some op then some [a, b] else none
  | .UnaryOp .USub a _ => if p = .neg then some [a] else none
  | .Compare a [op] [b] _ => if cmpOf p = some op ∧ behindInMarks op b = false then some [a, b] else none
  | .Subscript a b _ => match b with
    | .Slice lo hi none _ => match p, lo, hi with
      | .slc true true, some l, some h => if es.tail.all nBw = true then some [a, l, h] else none
      | .slc true false, some l, none => if es.tail.all nBw = true then some [a, l] else none
      | .slc false true, none, some h => if es.tail.all nBw = true then some [a, h] else none
      | .slc false false, none, none => some [a]
      | _, _, _ => none
    | _ => if p = .idx ∧ notSlice b = true then some [a, b] else none
  | .Attribute a f _ => match p with
    | .fld n => if T.fnm[n]? = some f ∧ okBase a = true then some [a] else none
    | _ => none
  | .Call (.Name x _) [a] [] _ => if notStar a = true ∧ gl s x = true ∧ (biOf p = some x ∨ tyOf p = some x) ∧ x ≠ "min" ∧ x ≠ "max" then some [a] else none
  | .Call (.Name x _) [a, b] [] _ => if notStar a = true ∧ notStar b = true ∧ gl s x = true then
      match p, b with
      | .min2, _ => if x = "min" then some [a, b] else none
      | .max2, _ => if x = "max" then some [a, b] else none
      | .isi [t], .Name y _ => if x = "isinstance" ∧ gl s y = true ∧ ((tyNm t = some y) ∨ (100 ≤ t ∧ T.cnm[t - 100]? = some y)) then some [a] else none
      | _, _ => none
    else none
  | _ => none
/-- a method's receiver and operands -/
def mopShape (p : Pr) : Expr → Option (Expr × List Expr)
  | .Call (.Attribute o m apos) [a] [] cpos => if meOf p = some m ∧ okBase o = true ∧ (apos.endLine == cpos.line) = true ∧ notStar a = true then some (o, [a]) else none
  | _ => none
def mTgs (s : Sc) : List Nat → List Expr → Bool
  | [], [] => true
  | i :: is, .Name x _ :: es => loc s i x && mTgs s is es
  | _, _ => false
def mTg (s : Sc) : Tg → Expr → Bool
  | .one i, .Name x _ => loc s i x
  | .many is, .Tuple es _ _ => mTgs s is es
  | _, _ => false
def tgNames : Expr → List Str
  | .Name x _ => [x]
  | .Tuple es _ _ => es.filterMap fun | .Name x _ => some x | _ => none
  | _ => []
/-- what is walked -/
def itShape (s : Sc) (tg : Expr) (k : ItK) (e : Expr) : Option (List Expr) := match k with
  | .plain => if notSet e = true then some [e] else none
  | .rng1 => match e with
    | .Call (.Name x _) [a] [] _ => if x = "range" ∧ gl s x = true ∧ notStar a = true then some [a] else none
    | _ => none
  | .rng2 => match e with
    | .Call (.Name x _) [a, b] [] _ => if x = "range" ∧ gl s x = true ∧ notStar a = true ∧ notStar b = true then some [a, b] else none
    | _ => none
  | .enum => match tg, e with
    | .Tuple _ _ _, .Call (.Name x _) [a] [] _ => if x = "enumerate" ∧ gl s x = true ∧ notStar a = true then some [a] else none
    | _, _ => none
  | .zip => match tg, e with
    | .Tuple _ _ _, .Call (.Name x _) [a, b] [] _ => if x = "zip" ∧ gl s x = true ∧ notStar a = true ∧ notStar b = true then some [a, b] else none
    | _, _ => none
  | .rev => match e with
    | .Call (.Name x _) [a] [] _ => if x = "reversed" ∧ gl s x = true ∧ notStar a = true then some [a] else none
    | _ => none
  | _ => none
def blkSc (s : Sc) (scope : Scope) : Sc := { N := s.N, sc := relS scope s.sc, fnB := fun x => scope.names.lookup x == some .cell, fx := s.fx }
mutual
def mE (T : Stat) : E → Sc → Expr → Bool
  | .fail, _, _ => true
  | .lit d, _, e => match e with
    | .Constant c _ _ => mLit d c
    | _ => false
  | .var i, s, e => match e with
    | .Name x _ => vis s i x
    | _ => false
  | .mv i, s, e => match e with
    | .Name x _ => vis s i x && !s.fx.contains i
    | _ => false
  | .sh i, s, e => match e with
    | .Name x _ => vis s i x
    | _ => false
  | .bw i, s, e => match e with
    | .Name x _ => vis s i x
    | _ => false
  | .rf _, _, _ => false
  | .glob g, s, e => match e with
    | .Name x _ => gl s x && decide (T.glb[g]? = some x)
    | _ => false
  | .op p es, s, e => match opShape T s p es e with
    | some xs => mEs T es s xs
    | none => false
  | .mop p o es, s, e => match mopShape p e with
    | some (x, xs) => mE T o s x && mEs T es s xs
    | none => false
  | .tup es, s, e => match e with
    | .Tuple xs _ _ => xs.all notStar && mEs T es s xs
    | _ => false
  | .lst es, s, e => match e with
    | .List xs _ => xs.all notStar && mEs T es s xs
    | _ => false
  | .dct0 _, _, e => match e with
    | .Dict [] [] _ => true
    | _ => false
  | .and a b, s, e => match e with
    | .BoolOp .And (x :: y :: r) pos => mE T a s x && mE T b s (match r with | [] => y | _ => .BoolOp .And (y :: r) pos)
    | _ => false
  | .or a b, s, e => match e with
    | .BoolOp .Or (x :: y :: r) pos => mE T a s x && mE T b s (match r with | [] => y | _ => .BoolOp .Or (y :: r) pos)
    | _ => false
  | .not a, s, e => match e with
    | .UnaryOp .Not x _ => mE T a s x
    | _ => false
  | .ite c a b, s, e => match e with
    | .IfExp x y z _ => mE T c s x && mE T a s y && mE T b s z
    | _ => false
  | .cmp2 p q a b c, s, e => match e with
    | .Compare x [o1, o2] [y, z] _ => decide (cmpOf p = some o1) && decide (cmpOf q = some o2) && !behindInMarks o2 z && mE T a s x && mE T b s y && mE T c s z
    | _ => false
  | .call f es, s, e => match e, T.fns[f]? with
    | .Call (.Name x _) xs [] _, some F => !F.meth && decide (F.nm = x) && gl s x && xs.all notStar && refsOk es F.refs && mAs T es s xs
    | _, _ => false
  | .meth f o es, s, e => match e, T.fns[f]? with
    | .Call (.Attribute y m apos) xs [] pos, some F => F.meth && decide (F.nm = m) && okBase y && (apos.endLine == pos.line) && decide (xs.length < 29) && xs.all notStar && (match F.refs with | false :: r => refsOk es r | _ => false) && mE T o s y && mAs T es s xs
    | _, _ => false
  | .new c es, s, e => match e with
    | .Call (.Name x _) (y :: xs) [] _ => decide (T.cnm[c]? = some x) && gl s x && (y :: xs).all notStar && mEs T es s (y :: xs)
    | _ => false
  | .pop i, s, e => match e with
    | .Call (.Attribute (.Name x _) m apos) [] [] cpos => decide (m = "pop") && vis s i x && (apos.endLine == cpos.line)
    | _ => false
  | .popAt i a, s, e => match e with
    | .Call (.Attribute (.Name x _) m apos) [y] [] cpos => decide (m = "pop") && vis s i x && (apos.endLine == cpos.line) && notStar y && mE T a s y
    | _ => false
  | .comp tg k es cs a, s, e => match e with
    | .ListComp elt [⟨tgt, iter, ifs, n⟩] scope _ => n == 0 && (match itShape s tgt k iter with
        | some xs => mEs T es s xs
        | none => false) && notSet iter && blkC s.N s.sc scope ((tgNames tgt).zip tg.slots) && mTg (blkSc s scope) tg tgt && (cs.length ≤ 1) && mEs T cs (blkSc s scope) ifs && mE T a (blkSc s scope) elt
    | _ => false
  | .frz a, s, e => okTruth e && mE T a s e
def mEs (T : Stat) : List E → Sc → List Expr → Bool
  | [], _, xs => match xs with
    | [] => true
    | _ => false
  | e :: es, s, xs => match xs with
    | x :: xs => mE T e s x && mEs T es s xs
    | [] => false
/-- arguments: by reference a name -/
def mAs (T : Stat) : List E → Sc → List Expr → Bool
  | [], _, xs => match xs with
    | [] => true
    | _ => false
  | e :: es, s, xs => match xs with
    | x :: xs => (match e with
      | .rf i => (match x with
        | .Name y _ => vis s i y
        | _ => false)
      | _ => mE T e s x) && mAs T es s xs
    | [] => false
end
def kLocal (s : Sc) (x : Str) : Bool := match s.sc.names.lookup x with
  | some .local => true
  | _ => false
def isFun (s : Sc) : Bool := match s.sc.kind with
  | .function => true
  | _ => false
/-- x = [..] on one line -/
def lcOk (s : Sc) (x : Str) (p : Pos) : Expr → Bool
  | .ListComp _ _ scope q => isFun s && kLocal s x && (p.line == q.line) && !(scope.names.any fun (n, k) => n == x && (k == .local || k == .cell))
  | _ => false
def isComp : E → Bool
  | .comp _ _ _ _ _ => true
  | .frz (.comp _ _ _ _ _) => true
  | _ => false
/-- a, b = x, y, stored from the right -/
def parOk (s : Sc) (i j : Nat) (x y : Str) (px py : Pos) (a b : Expr) : Bool :=
  isFun s && kLocal s x && kLocal s y && decide (s.N[i]? = some x) && decide (s.N[j]? = some y) && decide (i ≠ j) && !s.fx.contains i && !s.fx.contains j && (py.line == px.line) && decide (x ≠ y) && notStar a && notStar b &&
    !(foldedForSure 8 a && foldedForSure 8 b) && !(constantsAlone 8 a && constantsAlone 8 b)
def docE : Expr → Bool
  | .Constant (.str _) _ _ => true
  | _ => false
mutual
def mS (T : Stat) : S → Sc → Stmt → Bool
  | .fail, _, _ => true
  | .asg i e, s, st => match st with
    | .Assign [.Name x p] v _ => loc s i x && ((notLc v) || (isComp e && lcOk s x p v)) && mE T e s v
    | _ => false
  | .unp is e, s, st => match st with
    | .Assign [.Tuple ts k p] v _ => match v, e, is, ts with
      | .Tuple [a, b] _ _, .tup [u, w], [i, j], [.Name x px, .Name y py] => parOk s i j x y px py a b && mE T u s a && mE T w s b
      | _, _, _, _ => notTup v && notLc v && mTgs s is ts && mE T e s v
    | _ => false
  | .setI i k e, s, st => match st with
    | .Assign [.Subscript (.Name x _) y _] v _ => vis s i x && notLc v && notSlice y && mE T k s y && mE T e s v
    | _ => false
  | .mut m i es, s, st => match st, m, es with
    | .Expr (.Call (.Attribute (.Name x _) a apos) [y] [] cpos) _, .app, [e] => decide (a = "append") && vis s i x && (apos.endLine == cpos.line) && notStar y && mE T e s y
    | .Expr (.Call (.Attribute (.Name x _) a apos) [] [] cpos) _, .rev, [] => decide (a = "reverse") && vis s i x && (apos.endLine == cpos.line)
    | _, _, _ => false
  | .aug i p e, s, st => match st with
    | .AugAssign (.Name x _) o y _ => loc s i x && decide (augOf p = some o) && mE T e s y
    | _ => false
  | .expr e, s, st => match st with
    | .Expr y _ => notLc y && mE T e s y
    | _ => false
  | .ret e, s, st => match st with
    | .Return (some y) _ => mE T e s y
    | _ => false
  | .retN, _, st => match st with
    | .Return none _ => true
    | _ => false
  | .pass, _, st => match st with
    | .Pass _ => true
    | .Expr y _ => docE y
    | _ => false
  | .brk, _, st => match st with
    | .Break _ => true
    | _ => false
  | .cont, _, st => match st with
    | .Continue _ => true
    | _ => false
  | .ite c a b, s, st => match st with
    | .If x u w _ => mE T c s x && mSs T a s u && mSs T b s w
    | _ => false
  | .for tg k es body, s, st => match st with
    | .For tgt iter u [] _ => (match itShape s tgt k iter with
        | some xs => mEs T es s xs
        | none => false) && notSet iter && mTg s tg tgt && mSs T body s u
    | _ => false
  | .while c body, s, st => match st with
    | .While x u [] _ => mE T c s x && mSs T body s u
    | _ => false
def mSs (T : Stat) : List S → Sc → List Stmt → Bool
  | [], _, sts => match sts with
    | [] => true
    | _ => false
  | ir :: irs, s, sts => match sts with
    | [] => false
    | st :: sts => (match ir with
      | .fail => true
      | _ => false) || (mS T ir s st && mSs T irs s sts)
end
end EV

namespace EV
open PyProof.Rows PySem L2 PySem.Spec

structure ClOk (M : Mt) (T : Stat) (K : PySem.W.Frag) (c : Nat) : Prop where
  cls : Cls K (M.cl c)
  attr : ∀ f ∈ T.fnm, NoAttr K (M.cl c) f
  ha : PySem.W.findIn K (.ref (M.cl c)) "__class__" = some (some (.builtin "object.__class__"))
  hn : PySem.W.specialIn K (.builtin "object.__class__") "__get__" = some (some (.builtin "getset_descriptor.__get__"))
  htk : PySem.W.takesIn K (.builtin "object.__class__") = some true
  hm : PySem.W.mroIn K (M.cl c) (.type "object") = some true
  k1 : ∀ n ∈ ["NoneType", "bool", "int", "str", "list", "tuple", "dict"], PySem.W.kitOne K (.type n) (.ref (M.cl c)) = some false
  k2 : ∀ n ∈ ["str", "int", "tuple", "list", "bool", "dict"], PySem.W.kitOne K (.ref (M.cl c)) (.type n) = some false
  k3 : ∀ d, d < T.cnm.length → PySem.W.kitOne K (.ref (M.cl c)) (.ref (M.cl d)) = some (c == d)
/-- a class whose __init__ stores its arguments -/
def spNew (M : Mt) (c : Nat) (ns : List Nat) : Sp := fun vs H Q _ => ∃ a dx us, vs = .ref a :: us ∧ us.length = ns.length ∧ H a = some (.ins (M.cl c) dx []) ∧ Q .non (upd H a (.ins (M.cl c) dx ((ns.map M.fn).zip us)))

structure Gd (M : Mt) (T : Stat) (G : List D) (CL : List (List Nat)) (C : CallF) (n : Nat) (X : Cx) (s : Sc) : Prop where
  k : X.K = M.K
  calm : X.calm = true
  N : X.N = s.N
  nd : X.N.Nodup
  sc : X.env.scope = s.sc
  fn : ∀ x, s.fnB x = true → X.fn x = true
  room : Room n X.A
  xe : X.xe = fun _ _ => False
  glb : ∀ (g : Nat) (x : Str) (d : D), T.glb[g]? = some x → G[g]? = some d → ∃ u v, X.mg x = some u ∧ RelV v u ∧ Rp M (fun _ => none) d v
  blt : ∀ x ∈ bltNames, X.mg x = none
  fns : ∀ (f : Nat) (F : FnS), T.fns[f]? = some F → ∃ fa fd, FnOk X.prog X.w X.K X.mg X.base CX0 n fa fd F.ps (spF M C f F.refs) ∧ Binds X.K fd F.ps [] ∧ PySem.W.keepIn X.K (.ref fa) = true ∧
    (F.meth = false → X.mg F.nm = some (.ref fa)) ∧ (F.meth = true → Meth X.K (M.cl F.cls) F.nm fa)
  psl : ∀ (f : Nat) (F : FnS) (os : List O) (r : O) (ps : List (Option O)), T.fns[f]? = some F → C f os = some (r, ps) → ps.length = F.refs.length
  clm : ∀ (f : Nat) (F : FnS) (c : Nat) (fs : List (Nat × D)) (os : List O) (r : O) (ps : List (Option O)), T.fns[f]? = some F → F.meth = true → C f (.val (.ins c fs) :: os) = some (r, ps) → c = F.cls
  cls : ∀ (c : Nat) (x : Str), T.cnm[c]? = some x → ClOk M T X.K c ∧ X.mg x = some (.ref (M.cl c))
  fcl : ∀ (f : Nat) (F : FnS), T.fns[f]? = some F → F.meth = true → ∃ x, T.cnm[F.cls]? = some x
  new : ∀ (c : Nat) (x : Str) (ns : List Nat), T.cnm[c]? = some x → CL[c]? = some ns → ∃ fi fd ps j, n = j + 1 ∧ Mk X.K (M.cl c) fi ∧ Binds X.K fd ps [] ∧ FnOk X.prog X.w X.K X.mg X.base CX0 j fi fd ps (spNew M c ns)
  fnm : ∀ k, M.fn k = T.fnm.getD k Str.empty
  fnd : T.fnm.Nodup ∧ Str.empty ∉ T.fnm
  mnm : ∀ (f : Nat) (F : FnS), T.fns[f]? = some F → F.meth = true → F.nm ∉ T.fnm ∧ F.nm ≠ Str.empty
  nc : M.nc = T.cnm.length

section
variable {M : Mt} {T : Stat} {G : List D} {CL : List (List Nat)} {C : CallF} {n : Nat} {X : Cx} {s : Sc}
theorem Gd.hu (g : Gd M T G CL C n X s) : X.A.units + 65 < cLine := by have := g.room.un; omega
theorem okName_d {x : Str} (h : okName x = true) : (x == ("__debug__" : Str)) = false ∧ (x == ("__classdict__" : Str)) = false ∧ x ≠ "__name__" := by
  unfold okName at h
  simp only [Bool.and_eq_true, Bool.not_eq_true'] at h
  exact ⟨h.1.1, h.1.2, by simpa using h.2⟩
theorem Gd.vis (g : Gd M T G CL C n X s) {i : Nat} {x : Str} {pos : Pos} (h : vis s i x = true) : PE X (.Name x pos) (tVar i) := by
  unfold EV.vis at h
  simp only [Bool.and_eq_true, decide_eq_true_eq] at h
  obtain ⟨⟨h1, h2⟩, h3⟩ := h
  obtain ⟨d1, d2, d3⟩ := okName_d h2
  refine pe_var (by rw [g.N]; exact h1) ?_ d1 d2
  unfold Vis
  rw [g.sc]
  split at h3 <;> first | exact .inl (by assumption) | exact .inr (.inl (by assumption)) | exact .inr (.inr (by assumption)) | cases h3
theorem Gd.gl (g : Gd M T G CL C n X s) {x : Str} (h : gl s x = true) : Gl X x ∧ (x == ("__debug__" : Str)) = false ∧ x ≠ "__name__" := by
  unfold EV.gl at h
  simp only [Bool.and_eq_true] at h
  obtain ⟨d1, d2, d3⟩ := okName_d h.1
  refine ⟨?_, d1, d3⟩
  unfold Gl Env.kindOf
  rw [g.sc]
  have h2 := h.2
  split at h2 <;> first | assumption | cases h2
theorem Gd.loc (g : Gd M T G CL C n X s) {i : Nat} {x : Str} {pos : Pos} (h : loc s i x = true) : X.N[i]? = some x ∧ L2.Loc X.env.scope x ∧ (X.fn x = true ∨ X.env.scope.names.lookup x = some .local) ∧ i ∉ s.fx := by
  unfold EV.loc at h
  simp only [Bool.and_eq_true, decide_eq_true_eq, Bool.not_eq_true'] at h
  obtain ⟨⟨h1, h2⟩, h3⟩ := h
  refine ⟨by rw [g.N]; exact h1, ?_, ?_, by simpa using h3⟩
  · unfold L2.Loc
    rw [g.sc]
    split at h2 <;> first | exact .inl (by assumption) | exact .inr (by assumption) | cases h2
  · rw [g.sc]
    split at h2 <;> first | exact .inr (by assumption) | exact .inl (g.fn _ h2) | cases h2
def PEs (X : Cx) : List Expr → List TE → Prop
  | [], [] => True
  | x :: xs, t :: ts => PE X x t ∧ PEs X xs ts
  | _, _ => False
theorem starEach_of {x : Expr} {xs : List Expr} {env : PySem.Env} (h : notStar x = true) : starEach (x :: xs) env = (false, eval x env) :: starEach xs env := by
  cases x <;> first | rfl | cases h
theorem stars_none {env : PySem.Env} {pos : Pos} : ∀ {xs : List Expr}, xs.all notStar = true → (backTo pos (starEach xs env)).any (·.1) = false
  | [], _ => rfl
  | x :: xs, h => by
    rw [List.all_cons, Bool.and_eq_true] at h
    rw [starEach_of h.1]
    show (false || (backTo pos (starEach xs env)).any (·.1)) = false
    rw [stars_none h.2]
    rfl
theorem pa_of : ∀ {xs : List Expr} {ts : List TE}, PEs X xs ts → xs.all notStar = true → PA X xs (nest ts)
  | [], [], _, _ => pa_nil
  | [], _ :: _, h, _ => h.elim
  | _ :: _, [], h, _ => h.elim
  | x :: xs, t :: ts, h, hs => by
    rw [List.all_cons, Bool.and_eq_true] at hs
    exact pa_cons h.1 (pa_of h.2 hs.2) (starEach_of hs.1)
theorem isTrue_ok {x : Expr} {env : PySem.Env} (h : okTruth x = true) (whole : Sem Value) : PySem.isTrue x env whole = (do let v ← whole; standAt x.pos; holding [v] (truthy v)) := by
  cases x with
  | UnaryOp op y p => cases op <;> first | rfl | cases h
  | BoolOp _ _ _ => cases h
  | IfExp _ _ _ _ => cases h
  | Compare _ _ _ _ => cases h
  | _ => rfl
theorem base_ok {o : Expr} {a : Str} {env : PySem.Env} (h : okBase o = true) : attributeBase o a env (eval o env) = eval o env := by
  cases o with
  | Call f args kws pos =>
    cases f with
    | Name id p =>
      cases args with
      | nil =>
        cases kws with
        | nil =>
          unfold okBase at h
          unfold attributeBase
          simp only [h, Bool.true_or, if_true]
        | cons _ _ => rfl
      | cons _ _ => rfl
    | _ => rfl
  | _ => rfl
/-- truth -/
theorem truth_ok {Z H : Hp} {o : O} {v : V} {f : List Addr} {b : Bool} (r : RpO M Z H o v f) (sb : Sub Z H) (h : truth o.frz = some b) : TruV M.K v H b := by
  have w : RpW M Z H o.frz v := ⟨o, f, r, rfl⟩
  revert w h
  generalize o.frz = d
  intro h w
  cases d with
  | non => cases w.non; cases h; exact rfl
  | bl b => cases w.bl; cases h; exact rfl
  | int i => cases w.int; cases h; exact rfl
  | str y =>
    cases w.str
    unfold truth at h
    obtain ⟨h1, h2⟩ := ite_some h
    cases h2
    exact ⟨h1, rfl⟩
  | lst xs =>
    obtain ⟨a, vs, rfl, h1, h2⟩ := w.lst sb
    cases h
    refine .inl ⟨vs, h1, ?_⟩
    have := h2.length
    cases vs <;> cases xs <;> first | rfl | simp at this
  | tup xs =>
    obtain ⟨a, vs, rfl, h1, h2⟩ := w.tup sb
    cases h
    refine .inr (.inl ⟨vs, h1, ?_⟩)
    have := h2.length
    cases vs <;> cases xs <;> first | rfl | simp at this
  | dctK xs => cases h
  | dctT xs => cases h
  | ins _ _ => cases h
theorem post_false {o : O} {ρ : Env} : post false o ρ = some (o, ρ) := rfl
theorem post_true {o r : O} {ρ ρ' : Env} (h : post true o ρ = some (r, ρ')) : ∃ b, truth o.frz = some b ∧ r = .val (.bl b) ∧ ρ' = ρ := by
  unfold post at h
  simp only at h
  cases q : truth o.frz with
  | none => rw [q] at h; cases h
  | some b => rw [q] at h; cases h; exact ⟨b, rfl, rfl, rfl⟩
/-- what is asked for its truth -/
theorem pt_of {x : Expr} {m : Env → Option (O × Env)} {m' : Env → Option (O × Env)} (hK : X.K = M.K) (h : PE X x (tM M m)) (ht : okTruth x = true)
    (hm : ∀ ρ p, m' ρ = some p → ∃ o ρ', m ρ = some (o, ρ') ∧ post true o ρ' = some p) : PT X x (tT M m') := by
  refine PT.weak (pt_truth h (isTrue_ok ht)) fun σ H Q hq => ?_
  obtain ⟨Z, ρ, φ, b, ρ', e, hm', q⟩ := hq
  obtain ⟨o, ρ1, h1, h2⟩ := hm ρ _ hm'
  obtain ⟨b', t, hb, rfl⟩ := post_true h2
  cases hb
  refine ⟨Z, ρ, φ, o, _, e, h1, fun v Z' H' φ' f st e' r hf => ⟨b, ?_, q Z' H' φ' (st.less fun a => .inl) e'⟩⟩
  rw [hK]
  exact truth_ok r e'.sub t
/-- .. where nothing is told -/
theorem pt_never {x : Expr} {m : Env → Option (O × Env)} (h : ∀ ρ p, m ρ ≠ some p) : PT X x (tT M m) := ⟨fun _ _ _ _ _ _ ⟨_, ρ, _, _, _, _, hm, _⟩ => absurd hm (h ρ _)⟩
theorem pe_never {x : Expr} {m : Env → Option (O × Env)} (h : ∀ ρ p, m ρ ≠ some p) : PE X x (tM M m) := ⟨fun _ _ _ _ _ _ ⟨_, ρ, _, _, _, _, hm, _⟩ => absurd hm (h ρ _)⟩
/-- a value that stands frozen -/
theorem pe_val {x : Expr} {v : V} {d : D} (h : PE X x (tC v)) (r : ∀ Z, Rp M Z d v) {m : Env → Option (O × Env)} (hm : ∀ ρ p, m ρ = some p → p = (.val d, ρ)) : PE X x (tM M m) :=
  PE.weak h fun σ H Q ⟨Z, ρ, φ, o, ρ', e, h, q⟩ => by
    cases hm ρ _ h
    exact q.here e (r Z)
end
end EV

namespace EV
open PyProof.Rows PySem L2 PySem.Spec
section
variable {M : Mt} {T : Stat} {G : List D} {CL : List (List Nat)} {C : CallF} {n : Nat} {X : Cx} {s : Sc}
theorem ev_op {p : Pr} {es : List E} {ρ : Env} {o : O} {ρ' : Env} (h : ev G CL C (.op p es) false ρ = some (o, ρ')) : ∃ ds, evO G CL C es ρ = some (ds, ρ') ∧ prim p ds = some o := by
  unfold ev at h
  cases q : evO G CL C es ρ with
  | none => rw [q] at h; cases h
  | some w =>
    obtain ⟨ds, ρ1⟩ := w
    rw [q] at h
    simp only at h
    cases q2 : prim p ds with
    | none => rw [q2] at h; cases h
    | some o' => rw [q2] at h; simp only [post, Option.some.injEq, Prod.mk.injEq] at h; obtain ⟨rfl, rfl⟩ := h; exact ⟨ds, rfl, q2⟩
theorem RpWs.len {Z H : Hp} : ∀ {ds : List D} {vs : List V}, RpWs M Z H ds vs → vs.length = ds.length
  | [], _, h => by cases h; rfl
  | d :: ds, _, h => by obtain ⟨v, vs, rfl, _, h⟩ := h; simp [RpWs.len h]
theorem evO_len : ∀ {es : List E} {ρ ρ' : Env} {ds : List D}, evO G CL C es ρ = some (ds, ρ') → ds.length = es.length
  | [], _, _, _, h => by simp only [evO, Option.some.injEq, Prod.mk.injEq] at h; obtain ⟨rfl, _⟩ := h; rfl
  | e :: es, ρ, ρ', ds, h => by
    unfold evO at h
    split at h
    · split at h
      · cases h
      · split at h
        · cases h
        · rename_i q
          split at h
          · cases h
          · cases h; simp [evO_len q]
    · split at h
      · cases h
      · split at h
        · cases h
        · rename_i q; cases h; simp [evO_len q]
/-- an operation whose reading is by the operands' values -/
theorem e_op {p : Pr} {es : List E} {e : Expr} {t : TE} (h : PE X e t)
    (w : ∀ σ H Q Z ρ φ ds ρ' o, EOk M Z H σ ρ φ → evO G CL C es ρ = some (ds, ρ') → prim p ds = some o → Post M Z H ρ φ σ o ρ' Q → t σ H Q) : PE X e (tM M (ev G CL C (.op p es) false)) :=
  PE.weak h fun σ H Q ⟨Z, ρ, φ, o, ρ', e, h, q⟩ => by
    obtain ⟨ds, h1, h2⟩ := ev_op h
    exact w σ H Q Z ρ φ ds ρ' o e h1 h2 q
theorem e_op1 {p : Pr} {a : E} {x e : Expr} {t : TE → TE} {r : V → Hp → VK → Prop} (ha : PE X x (rdO M G CL C a)) (hpe : ∀ ta, PE X x ta → PE X e (t ta)) (ht : ∀ ta σ H Q, (ta σ H fun v H1 => r v H1 Q) → t ta σ H Q)
    (srv : ∀ (Z H : Hp) (x : V) (dx : D) (o : O) (Q : VK), Sub Z H → RpW M Z H dx x → prim p [dx] = some o → Cont M Z H o Q → r x H Q) : PE X e (tM M (ev G CL C (.op p [a]) false)) := by
  refine e_op (hpe _ ha) fun σ H Q Z ρ φ ds ρ' o e h1 h2 q => ht _ _ _ _ ?_
  exact ops_ok (K := fun vs H2 => match vs with | [x] => r x H2 Q | _ => False) [a] e h1 fun vs Z1 H1 φ1 st e1 ra => by
    match ds, evO_len h1, ra, h2 with
    | [d1], _, ra, h2 =>
      obtain ⟨v, vs, rfl, r1, rfl⟩ := ra
      exact srv Z1 H1 v d1 o Q e1.sub r1 h2 (q.cont st e1)
theorem e_op2 {p : Pr} {a b : E} {x y e : Expr} {t : TE → TE → TE} {r : R2} (ha : PE X x (rdO M G CL C a)) (hb : PE X y (rdO M G CL C b)) (hpe : ∀ ta tb, PE X x ta → PE X y tb → PE X e (t ta tb))
    (ht : ∀ ta tb σ H Q, (ta σ H fun v H1 => tb σ H1 fun w H2 => r v w H2 Q) → t ta tb σ H Q) (srv : Srv M p r) :
    PE X e (tM M (ev G CL C (.op p [a, b]) false)) := by
  refine e_op (hpe _ _ ha hb) fun σ H Q Z ρ φ ds ρ' o e h1 h2 q => ht _ _ _ _ _ ?_
  exact ops_ok (K := fun vs H2 => match vs with | [x, y] => r x y H2 Q | _ => False) [a, b] e h1 fun vs Z1 H1 φ1 st e1 ra => by
    match ds, evO_len h1, ra, h2 with
    | [d1, d2], _, ra, h2 =>
      obtain ⟨v, vs, rfl, r1, w, ws, rfl, r2, rfl⟩ := ra
      exact srv Z1 H1 v w d1 d2 o Q e1.sub r1 r2 h2 (q.cont st e1)
theorem e_op3 {p : Pr} {a b c : E} {x y z e : Expr} {t : TE → TE → TE → TE} {r : V → V → V → Hp → VK → Prop} (ha : PE X x (rdO M G CL C a)) (hb : PE X y (rdO M G CL C b)) (hc : PE X z (rdO M G CL C c)) (hpe : ∀ ta tb tc, PE X x ta → PE X y tb → PE X z tc → PE X e (t ta tb tc))
    (ht : ∀ ta tb tc σ H Q, (ta σ H fun v H1 => tb σ H1 fun w H2 => tc σ H2 fun u H3 => r v w u H3 Q) → t ta tb tc σ H Q)
    (srv : ∀ (Z H : Hp) (x y z : V) (dx dy dz : D) (o : O) (Q : VK), Sub Z H → RpW M Z H dx x → RpW M Z H dy y → RpW M Z H dz z → prim p [dx, dy, dz] = some o → Cont M Z H o Q → r x y z H Q) :
    PE X e (tM M (ev G CL C (.op p [a, b, c]) false)) := by
  refine e_op (hpe _ _ _ ha hb hc) fun σ H Q Z ρ φ ds ρ' o e h1 h2 q => ht _ _ _ _ _ _ ?_
  exact ops_ok (K := fun vs H2 => match vs with | [x, y, z] => r x y z H2 Q | _ => False) [a, b, c] e h1 fun vs Z1 H1 φ1 st e1 ra => by
    match ds, evO_len h1, ra, h2 with
    | [d1, d2, d3], _, ra, h2 =>
      obtain ⟨v, vs, rfl, r1, w, ws, rfl, r2, u, us, rfl, r3, rfl⟩ := ra
      exact srv Z1 H1 v w u d1 d2 d3 o Q e1.sub r1 r2 r3 h2 (q.cont st e1)
/-! ### items -/
theorem atI_some {α : Type} {xs : List α} {i : Int} {d : α} (h : atI xs i = some d) : ∃ j, ixN xs.length i = some j ∧ xs[j]? = some d := by
  unfold atI at h
  exact Option.bind_eq_some_iff.mp h
theorem RpA.atI {Z : Hp} {ds : List D} {vs : List V} {i : Int} {d : D} (r : RpA M Z ds vs) (h : atI ds i = some d) : ∃ v, L2.atI vs i = some v ∧ Rp M Z d v := by
  obtain ⟨j, h1, h2⟩ := atI_some h
  obtain ⟨v, h3, h4⟩ := r.get h2
  refine ⟨v, ?_, h4⟩
  unfold L2.atI
  rw [r.length, h1]
  exact h3
theorem idx_srv (h : X.K = M.K) : Srv M .idx (rIx X.K) := by
  intro Z H x y dx dy o Q sb hx hy e c
  have e : idxD dx dy = some o := e
  rw [h]
  cases dx with
  | lst xs =>
    cases dy with
    | int i =>
      obtain ⟨d, h1, rfl⟩ := map_some e
      obtain ⟨a, vs, rfl, h2, h3⟩ := hx.lst sb
      obtain ⟨v, h4, h5⟩ := h3.atI h1
      exact .inl ⟨a, vs, i, v, rfl, hy.int, h2, h4, c.val sb h5⟩
    | _ => cases e
  | tup xs =>
    cases dy with
    | int i =>
      obtain ⟨d, h1, rfl⟩ := map_some e
      obtain ⟨a, vs, rfl, h2, h3⟩ := hx.tup sb
      obtain ⟨v, h4, h5⟩ := h3.atI h1
      exact .inr (.inl ⟨a, vs, i, v, rfl, hy.int, h2, h4, c.val sb h5⟩)
    | _ => cases e
  | str z =>
    cases dy with
    | int i =>
      obtain ⟨hz, e⟩ := ite_some e
      obtain ⟨k, h1, rfl⟩ := map_some e
      exact .inr (.inr ⟨z, i, k, hx.str, hy.int, hz, h1, c.val sb rfl⟩)
    | _ => cases e
  | _ => cases e
theorem RpF.get (g : Gd M T G CL C n X s) {Z : Hp} {k : Nat} {f : Str} (hf : T.fnm[k]? = some f) : ∀ {ds : List (Nat × D)} {xs : List (Str × V)} {d : D}, RpF M Z ds xs → ds.lookup k = some d → ∃ v, xs.lookup f = some v ∧ Rp M Z d v
  | [], _, _, _, h => by cases h
  | (j, d') :: ds, _, d, h, hl => by
    obtain ⟨v, vs, rfl, h1, h2⟩ := h
    have hk : M.fn k = f := by rw [g.fnm, List.getD_eq_getElem?_getD, hf]; rfl
    have fne : f ≠ Str.empty := fun e => g.fnd.2 (e ▸ List.mem_of_getElem? hf)
    by_cases e : k = j
    · subst e
      rw [List.lookup_cons_self] at hl
      cases hl
      rw [hk, List.lookup_cons_self]
      exact ⟨v, rfl, h1⟩
    · have ne : f ≠ M.fn j := fun q => by
        rw [g.fnm, List.getD_eq_getElem?_getD] at q
        cases q2 : T.fnm[j]? with
        | none => rw [q2] at q; exact fne q
        | some w =>
          rw [q2] at q
          have q : f = w := q
          subst q
          exact e (nodup_ix g.fnd.1 hf q2)
      rw [List.lookup_cons, (show (k == j) = false from by simpa using e)] at hl
      rw [List.lookup_cons, (show (f == M.fn j) = false from by simpa using ne)]
      exact RpF.get g hf h2 hl
theorem RpF.no (g : Gd M T G CL C n X s) {Z : Hp} {m : Str} (hm : m ∉ T.fnm ∧ m ≠ Str.empty) : ∀ {ds : List (Nat × D)} {xs : List (Str × V)}, RpF M Z ds xs → xs.lookup m = none
  | [], _, h => by cases h; rfl
  | (j, d') :: ds, _, h => by
    obtain ⟨v, vs, rfl, h1, h2⟩ := h
    have ne : m ≠ M.fn j := fun q => by
      rw [g.fnm, List.getD_eq_getElem?_getD] at q
      cases q2 : T.fnm[j]? with
      | none => rw [q2] at q; exact hm.2 q
      | some w => rw [q2] at q; exact hm.1 (q ▸ List.mem_of_getElem? q2)
    rw [List.lookup_cons, (show (m == M.fn j) = false from by simpa using ne)]
    exact RpF.no g hm h2
/-! ### built-ins -/
theorem RpA.ints {Z : Hp} : ∀ {ds : List D} {vs : List V} {ns : List Int}, RpA M Z ds vs → allInt ds = some ns → vs = ns.map V.int
  | [], _, _, h, e => by cases h; cases e; rfl
  | d :: ds, _, ns, h, e => by
    obtain ⟨v, vs, rfl, h1, h2⟩ := h
    cases d with
    | int i =>
      obtain ⟨l, e2, rfl⟩ := map_some e
      cases h1
      rw [RpA.ints h2 e2]
      rfl
    | _ => cases e
theorem RpA.bls {Z : Hp} : ∀ {ds : List D} {vs : List V} {ns : List Bool}, RpA M Z ds vs → allBl ds = some ns → vs = ns.map V.bl
  | [], _, _, h, e => by cases h; cases e; rfl
  | d :: ds, _, ns, h, e => by
    obtain ⟨v, vs, rfl, h1, h2⟩ := h
    cases d with
    | bl i =>
      obtain ⟨l, e2, rfl⟩ := map_some e
      cases h1
      rw [RpA.bls h2 e2]
      rfl
    | _ => cases e
theorem RpA.strs {Z : Hp} : ∀ {ds : List D} {vs : List V} {ns : List Str}, RpA M Z ds vs → allStr ds = some ns → vs = ns.map V.str
  | [], _, _, h, e => by cases h; cases e; rfl
  | d :: ds, _, ns, h, e => by
    obtain ⟨v, vs, rfl, h1, h2⟩ := h
    cases d with
    | str i =>
      obtain ⟨l, e2, rfl⟩ := map_some e
      cases h1
      rw [RpA.strs h2 e2]
      rfl
    | _ => cases e
theorem RpA.ofStrs {Z : Hp} : ∀ (ns : List Str), RpA M Z (ns.map .str) (ns.map V.str)
  | [] => rfl
  | n :: ns => ⟨.str n, ns.map V.str, rfl, rfl, RpA.ofStrs ns⟩
/-- a built-in of one value -/
def Srv1 (M : Mt) (p : Pr) (r : List V → Hp → VK → Prop) : Prop := ∀ (Z H : Hp) (x : V) (dx : D) (o : O) (Q : VK), Sub Z H → RpW M Z H dx x → prim p [dx] = some o → Cont M Z H o Q → r [x] H Q
theorem lstD_some {x : D} {f : List D → Option O} {o : O} (h : lstD x f = some o) : ∃ xs, x = .lst xs ∧ f xs = some o := by
  cases x <;> first | exact ⟨_, rfl, h⟩ | cases h
theorem bi_ok (hK : X.K = M.K) (hc : X.calm = true) (p : Pr) (x : Str) (h : biOf p = some x) (h1 : x ≠ "min") (h2 : x ≠ "max") : ∃ id r, bootBuiltins x = some (.builtin id) ∧ CallR X (.builtin id) r ∧ Srv1 M p r := by
  cases p <;> simp only [biOf, reduceCtorEq, Option.some.injEq] at h
  case len =>
    subst h
    refine ⟨"len", _, PySem.boot_len, call_len_str.or call_len_seq, ?_⟩
    intro Z H x dx o Q sb hx e c
    have e : lenD dx = some o := e
    rw [hK]
    cases dx with
    | str z => obtain ⟨hz, e⟩ := ite_some e; cases oi_some e; exact .inl ⟨z, by rw [hx.str], hz, c.val sb rfl⟩
    | lst xs => cases oi_some e; obtain ⟨a, vs, rfl, h2, h3⟩ := hx.lst sb; exact .inr ⟨a, vs, rfl, .inl h2, by rw [h3.length]; exact c.val sb rfl⟩
    | tup xs => cases oi_some e; obtain ⟨a, vs, rfl, h2, h3⟩ := hx.tup sb; exact .inr ⟨a, vs, rfl, .inr h2, by rw [h3.length]; exact c.val sb rfl⟩
    | _ => cases e
  case sum =>
    subst h
    refine ⟨"sum", _, by decide +kernel, cr_sum hc, ?_⟩
    intro Z H x dx o Q sb hx e c
    obtain ⟨xs, rfl, e⟩ := lstD_some e
    obtain ⟨ns, e1, e2⟩ := Option.bind_eq_some_iff.mp e
    cases oi_some e2
    rw [hK]
    obtain ⟨a, vs, rfl, h2, h3⟩ := hx.lst sb
    exact ⟨a, ns, rfl, by rw [← h3.ints e1]; exact h2, c.val sb rfl⟩
  case all =>
    subst h
    refine ⟨"all", _, by decide +kernel, cr_all hc, ?_⟩
    intro Z H x dx o Q sb hx e c
    obtain ⟨xs, rfl, e⟩ := lstD_some e
    obtain ⟨ns, e1, e2⟩ := Option.bind_eq_some_iff.mp e
    cases ob_some e2
    rw [hK]
    obtain ⟨a, vs, rfl, h2, h3⟩ := hx.lst sb
    exact ⟨a, ns, rfl, by rw [← h3.bls e1]; exact h2, c.val sb rfl⟩
  case any =>
    subst h
    refine ⟨"any", _, by decide +kernel, cr_any hc, ?_⟩
    intro Z H x dx o Q sb hx e c
    obtain ⟨xs, rfl, e⟩ := lstD_some e
    obtain ⟨ns, e1, e2⟩ := Option.bind_eq_some_iff.mp e
    cases ob_some e2
    rw [hK]
    obtain ⟨a, vs, rfl, h2, h3⟩ := hx.lst sb
    exact ⟨a, ns, rfl, by rw [← h3.bls e1]; exact h2, c.val sb rfl⟩
  case min2 => exact absurd h.symm h1
  case max2 => exact absurd h.symm h2
theorem ty_ok (hK : X.K = M.K) (p : Pr) (x : Str) (h : tyOf p = some x) : ∃ id r, bootBuiltins x = some (.type id) ∧ CallR X (.type id) r ∧ Srv1 M p r := by
  cases p <;> simp only [tyOf, reduceCtorEq, Option.some.injEq] at h
  case int =>
    subst h
    refine ⟨"int", _, boot_int, call_int1, ?_⟩
    intro Z H x dx o Q sb hx e c
    have e : intD dx = some o := e
    cases dx with
    | int i => cases oi_some e; exact .inl ⟨i, by rw [hx.int], c.val sb rfl⟩
    | bl b => cases oi_some e; exact .inr ⟨b, by rw [hx.bl], c.val sb (by cases b <;> exact rfl)⟩
    | _ => cases e
  case str =>
    subst h
    refine ⟨"str", _, boot_str, call_str_int, ?_⟩
    intro Z H x dx o Q sb hx e c
    have e : strD dx = some o := e
    cases dx with
    | int i => obtain ⟨hz, e⟩ := ite_some e; cases e; exact ⟨i, by rw [hx.int], hz, c.val sb rfl⟩
    | _ => cases e
  case list =>
    subst h
    refine ⟨"list", _, boot_list, call_list_of, ?_⟩
    intro Z H x dx o Q sb hx e c
    obtain ⟨xs, e1, rfl⟩ := map_some e
    rw [hK]
    obtain ⟨a, vs, rfl, h2, h3⟩ := hx.seq sb e1
    exact ⟨a, vs, rfl, h2, fun l hl => new_lst sb c h3 hl⟩
  case tuple =>
    subst h
    refine ⟨"tuple", _, boot_tuple, call_tuple_of, ?_⟩
    intro Z H x dx o Q sb hx e c
    obtain ⟨xs, e1, rfl⟩ := map_some e
    rw [hK]
    cases dx with
    | lst ds => cases e1; obtain ⟨a, vs, rfl, h2, h3⟩ := hx.lst sb; exact ⟨a, vs, rfl, .inl ⟨h2, fun l hl => new_tup sb c h3 hl⟩⟩
    | tup ds => cases e1; have hx' := hx.ofval rfl; obtain ⟨a, vs, rfl, h2, h3⟩ := hx.tup sb; exact ⟨a, vs, rfl, .inr ⟨h2, c.val sb hx'⟩⟩
    | _ => cases e1
/-! ### isinstance -/
def tyV : D → String
  | .non => "NoneType" | .bl _ => "bool" | .int _ => "int" | .str _ => "str" | .tup _ => "tuple" | .lst _ => "list" | .dctK _ => "dict" | .dctT _ => "dict" | .ins _ _ => "object"
theorem tyx {Z H : Hp} {d : D} {v : V} (h : RpW M Z H d v) (sb : Sub Z H) (hd : ∀ c fs, d ≠ .ins c fs) : TyX M.K H v (.type (tyV d)) := by
  cases d with
  | non => cases h.non; exact .base .non
  | bl b => cases h.bl; exact .base (.bl b)
  | int i => cases h.int; exact .base (.int i)
  | str x => cases h.str; exact .base (.str x)
  | tup ds =>
    obtain ⟨a, xs, rfl, h1, _⟩ := h.tup sb
    rcases h1 with (h1 | ⟨o, h1⟩) | ⟨o, _, _, h1, h2, _⟩
    · exact .base (.tup h1)
    · exact .fTuple h1
    · exact .kTuple h1 h2
  | lst ds =>
    obtain ⟨a, xs, rfl, h1, _⟩ := h.lst sb
    rcases h1 with (h1 | ⟨o, h1⟩) | ⟨o, _, _, h1, h2, _⟩
    · exact .base (.lst h1)
    · exact .base (.frz h1)
    · exact .kList h1 h2
  | dctK ds =>
    obtain ⟨a, xs, rfl, h1, _⟩ := h.dctK sb
    rcases h1 with h1 | ⟨o, h1⟩
    · exact .base (.dK h1)
    · exact .fDict h1
  | dctT ds =>
    obtain ⟨a, xs, rfl, h1, _⟩ := h.dctT sb
    exact .base (.dT h1)
  | ins c fs => exact absurd rfl (hd c fs)
theorem tyx_ins {Z H : Hp} {c : Nat} {fs : List (Nat × D)} {v : V} (h : RpW M Z H (.ins c fs) v) (sb : Sub Z H) (cl : ClOk M T M.K c) : TyX M.K H v (.ref (M.cl c)) := by
  obtain ⟨a, dx, xs, rfl, h1, _, _⟩ := h.ofval rfl
  exact .base (.ins (sb _ _ h1) cl.cls cl.ha cl.hn cl.htk cl.hm)
theorem kitTab : ∀ a ∈ ["NoneType", "bool", "int", "str", "tuple", "list", "dict"], ∀ b ∈ ["str", "int", "tuple", "list", "bool", "dict"], kitB a b = some (a == b || (a == "bool" && b == "int")) := by decide +kernel
theorem kitT {a b : String} {r : Bool} (ha : a ∈ ["NoneType", "bool", "int", "str", "tuple", "list", "dict"]) (hb : b ∈ ["str", "int", "tuple", "list", "bool", "dict"]) (hr : (a == b || (a == "bool" && b == "int")) = r) : kitB a b = some r := by rw [kitTab a ha b hb, hr]
theorem isTy_kit {K : PySem.W.Frag} {t : Nat} {y : Str} (h : tyNm t = some y) : ∃ nm : String, bootBuiltins y = some (.type nm) ∧ nm ∈ ["str", "int", "tuple", "list", "bool", "dict"] ∧ (∀ d : D, (∀ c fs, d ≠ .ins c fs) → PySem.W.kitOne K (.type (tyV d)) (.type nm) = some (isTy1 t d)) ∧ ∀ c fs, isTy1 t (.ins c fs) = false := by
  match t, h with
  | 0, h =>
    cases h
    refine ⟨"str", boot_str, by simp, fun d hd => ?_, fun c fs => by simp [isTy1] <;> omega⟩
    cases d with
    | non => exact kit_ty ((kitT (a := "NoneType") (b := "str") (r := false) (by simp) (by simp) (by decide +kernel)).trans rfl)
    | bl _ => exact kit_ty ((kitT (a := "bool") (b := "str") (r := false) (by simp) (by simp) (by decide +kernel)).trans rfl)
    | int _ => exact kit_ty ((kitT (a := "int") (b := "str") (r := false) (by simp) (by simp) (by decide +kernel)).trans rfl)
    | str _ => exact kit_ty ((kitT (a := "str") (b := "str") (r := true) (by simp) (by simp) (by decide +kernel)).trans rfl)
    | tup _ => exact kit_ty ((kitT (a := "tuple") (b := "str") (r := false) (by simp) (by simp) (by decide +kernel)).trans rfl)
    | lst _ => exact kit_ty ((kitT (a := "list") (b := "str") (r := false) (by simp) (by simp) (by decide +kernel)).trans rfl)
    | dctK _ => exact kit_ty ((kitT (a := "dict") (b := "str") (r := false) (by simp) (by simp) (by decide +kernel)).trans rfl)
    | dctT _ => exact kit_ty ((kitT (a := "dict") (b := "str") (r := false) (by simp) (by simp) (by decide +kernel)).trans rfl)
    | ins c fs => exact absurd rfl (hd c fs)
  | 1, h =>
    cases h
    refine ⟨"int", boot_int, by simp, fun d hd => ?_, fun c fs => by simp [isTy1] <;> omega⟩
    cases d with
    | non => exact kit_ty ((kitT (a := "NoneType") (b := "int") (r := false) (by simp) (by simp) (by decide +kernel)).trans rfl)
    | bl _ => exact kit_ty ((kitT (a := "bool") (b := "int") (r := true) (by simp) (by simp) (by decide +kernel)).trans rfl)
    | int _ => exact kit_ty ((kitT (a := "int") (b := "int") (r := true) (by simp) (by simp) (by decide +kernel)).trans rfl)
    | str _ => exact kit_ty ((kitT (a := "str") (b := "int") (r := false) (by simp) (by simp) (by decide +kernel)).trans rfl)
    | tup _ => exact kit_ty ((kitT (a := "tuple") (b := "int") (r := false) (by simp) (by simp) (by decide +kernel)).trans rfl)
    | lst _ => exact kit_ty ((kitT (a := "list") (b := "int") (r := false) (by simp) (by simp) (by decide +kernel)).trans rfl)
    | dctK _ => exact kit_ty ((kitT (a := "dict") (b := "int") (r := false) (by simp) (by simp) (by decide +kernel)).trans rfl)
    | dctT _ => exact kit_ty ((kitT (a := "dict") (b := "int") (r := false) (by simp) (by simp) (by decide +kernel)).trans rfl)
    | ins c fs => exact absurd rfl (hd c fs)
  | 2, h =>
    cases h
    refine ⟨"tuple", boot_tuple, by simp, fun d hd => ?_, fun c fs => by simp [isTy1] <;> omega⟩
    cases d with
    | non => exact kit_ty ((kitT (a := "NoneType") (b := "tuple") (r := false) (by simp) (by simp) (by decide +kernel)).trans rfl)
    | bl _ => exact kit_ty ((kitT (a := "bool") (b := "tuple") (r := false) (by simp) (by simp) (by decide +kernel)).trans rfl)
    | int _ => exact kit_ty ((kitT (a := "int") (b := "tuple") (r := false) (by simp) (by simp) (by decide +kernel)).trans rfl)
    | str _ => exact kit_ty ((kitT (a := "str") (b := "tuple") (r := false) (by simp) (by simp) (by decide +kernel)).trans rfl)
    | tup _ => exact kit_ty ((kitT (a := "tuple") (b := "tuple") (r := true) (by simp) (by simp) (by decide +kernel)).trans rfl)
    | lst _ => exact kit_ty ((kitT (a := "list") (b := "tuple") (r := false) (by simp) (by simp) (by decide +kernel)).trans rfl)
    | dctK _ => exact kit_ty ((kitT (a := "dict") (b := "tuple") (r := false) (by simp) (by simp) (by decide +kernel)).trans rfl)
    | dctT _ => exact kit_ty ((kitT (a := "dict") (b := "tuple") (r := false) (by simp) (by simp) (by decide +kernel)).trans rfl)
    | ins c fs => exact absurd rfl (hd c fs)
  | 3, h =>
    cases h
    refine ⟨"list", boot_list, by simp, fun d hd => ?_, fun c fs => by simp [isTy1] <;> omega⟩
    cases d with
    | non => exact kit_ty ((kitT (a := "NoneType") (b := "list") (r := false) (by simp) (by simp) (by decide +kernel)).trans rfl)
    | bl _ => exact kit_ty ((kitT (a := "bool") (b := "list") (r := false) (by simp) (by simp) (by decide +kernel)).trans rfl)
    | int _ => exact kit_ty ((kitT (a := "int") (b := "list") (r := false) (by simp) (by simp) (by decide +kernel)).trans rfl)
    | str _ => exact kit_ty ((kitT (a := "str") (b := "list") (r := false) (by simp) (by simp) (by decide +kernel)).trans rfl)
    | tup _ => exact kit_ty ((kitT (a := "tuple") (b := "list") (r := false) (by simp) (by simp) (by decide +kernel)).trans rfl)
    | lst _ => exact kit_ty ((kitT (a := "list") (b := "list") (r := true) (by simp) (by simp) (by decide +kernel)).trans rfl)
    | dctK _ => exact kit_ty ((kitT (a := "dict") (b := "list") (r := false) (by simp) (by simp) (by decide +kernel)).trans rfl)
    | dctT _ => exact kit_ty ((kitT (a := "dict") (b := "list") (r := false) (by simp) (by simp) (by decide +kernel)).trans rfl)
    | ins c fs => exact absurd rfl (hd c fs)
  | 4, h =>
    cases h
    refine ⟨"bool", boot_bool, by simp, fun d hd => ?_, fun c fs => by simp [isTy1] <;> omega⟩
    cases d with
    | non => exact kit_ty ((kitT (a := "NoneType") (b := "bool") (r := false) (by simp) (by simp) (by decide +kernel)).trans rfl)
    | bl _ => exact kit_ty ((kitT (a := "bool") (b := "bool") (r := true) (by simp) (by simp) (by decide +kernel)).trans rfl)
    | int _ => exact kit_ty ((kitT (a := "int") (b := "bool") (r := false) (by simp) (by simp) (by decide +kernel)).trans rfl)
    | str _ => exact kit_ty ((kitT (a := "str") (b := "bool") (r := false) (by simp) (by simp) (by decide +kernel)).trans rfl)
    | tup _ => exact kit_ty ((kitT (a := "tuple") (b := "bool") (r := false) (by simp) (by simp) (by decide +kernel)).trans rfl)
    | lst _ => exact kit_ty ((kitT (a := "list") (b := "bool") (r := false) (by simp) (by simp) (by decide +kernel)).trans rfl)
    | dctK _ => exact kit_ty ((kitT (a := "dict") (b := "bool") (r := false) (by simp) (by simp) (by decide +kernel)).trans rfl)
    | dctT _ => exact kit_ty ((kitT (a := "dict") (b := "bool") (r := false) (by simp) (by simp) (by decide +kernel)).trans rfl)
    | ins c fs => exact absurd rfl (hd c fs)
  | 5, h =>
    cases h
    refine ⟨"dict", boot_dict, by simp, fun d hd => ?_, fun c fs => by simp [isTy1] <;> omega⟩
    cases d with
    | non => exact kit_ty ((kitT (a := "NoneType") (b := "dict") (r := false) (by simp) (by simp) (by decide +kernel)).trans rfl)
    | bl _ => exact kit_ty ((kitT (a := "bool") (b := "dict") (r := false) (by simp) (by simp) (by decide +kernel)).trans rfl)
    | int _ => exact kit_ty ((kitT (a := "int") (b := "dict") (r := false) (by simp) (by simp) (by decide +kernel)).trans rfl)
    | str _ => exact kit_ty ((kitT (a := "str") (b := "dict") (r := false) (by simp) (by simp) (by decide +kernel)).trans rfl)
    | tup _ => exact kit_ty ((kitT (a := "tuple") (b := "dict") (r := false) (by simp) (by simp) (by decide +kernel)).trans rfl)
    | lst _ => exact kit_ty ((kitT (a := "list") (b := "dict") (r := false) (by simp) (by simp) (by decide +kernel)).trans rfl)
    | dctK _ => exact kit_ty ((kitT (a := "dict") (b := "dict") (r := true) (by simp) (by simp) (by decide +kernel)).trans rfl)
    | dctT _ => exact kit_ty ((kitT (a := "dict") (b := "dict") (r := true) (by simp) (by simp) (by decide +kernel)).trans rfl)
    | ins c fs => exact absurd rfl (hd c fs)
end
end EV

namespace EV
open PyProof.Rows PySem L2 PySem.Spec
section
variable {M : Mt} {T : Stat} {G : List D} {CL : List (List Nat)} {C : CallF} {n : Nat} {X : Cx} {s : Sc}
theorem PEs.one {x : Expr} {ts : List TE} (h : PEs X [x] ts) : ∃ t, ts = [t] ∧ PE X x t := by
  match ts, h with
  | [t], h => exact ⟨t, rfl, h.1⟩
theorem PEs.two {x y : Expr} {ts : List TE} (h : PEs X [x, y] ts) : ∃ t u, ts = [t, u] ∧ PE X x t ∧ PE X y u := by
  match ts, h with
  | [t, u], h => exact ⟨t, u, rfl, h.1, h.2.1⟩
theorem PEs.three {x y z : Expr} {ts : List TE} (h : PEs X [x, y, z] ts) : ∃ t u w, ts = [t, u, w] ∧ PE X x t ∧ PE X y u ∧ PE X z w := by
  match ts, h with
  | [t, u, w], h => exact ⟨t, u, w, rfl, h.1, h.2.1, h.2.2.1⟩
theorem map1 {α β : Type} {f : α → β} {xs : List α} {y : β} (h : xs.map f = [y]) : ∃ a, xs = [a] ∧ f a = y := by
  match xs, h with
  | [a], h => exact ⟨a, rfl, by simpa using h⟩
theorem map2 {α β : Type} {f : α → β} {xs : List α} {y z : β} (h : xs.map f = [y, z]) : ∃ a b, xs = [a, b] ∧ f a = y ∧ f b = z := by
  match xs, h with
  | [a, b], h => simp at h; exact ⟨a, b, rfl, h.1, h.2⟩
theorem map3 {α β : Type} {f : α → β} {xs : List α} {y z w : β} (h : xs.map f = [y, z, w]) : ∃ a b c, xs = [a, b, c] ∧ f a = y ∧ f b = z ∧ f c = w := by
  match xs, h with
  | [a, b, c], h => simp at h; exact ⟨a, b, c, rfl, h.1, h.2.1, h.2.2⟩
theorem PEs.es1 {x : Expr} {es : List E} (h : PEs X [x] (es.map (rdO M G CL C))) : ∃ a, es = [a] ∧ PE X x (rdO M G CL C a) := by
  obtain ⟨t, e, h⟩ := h.one
  obtain ⟨a, rfl, rfl⟩ := map1 e
  exact ⟨a, rfl, h⟩
theorem PEs.es2 {x y : Expr} {es : List E} (h : PEs X [x, y] (es.map (rdO M G CL C))) : ∃ a b, es = [a, b] ∧ PE X x (rdO M G CL C a) ∧ PE X y (rdO M G CL C b) := by
  obtain ⟨t, u, e, h1, h2⟩ := h.two
  obtain ⟨a, b, rfl, rfl, rfl⟩ := map2 e
  exact ⟨a, b, rfl, h1, h2⟩
theorem PEs.es3 {x y z : Expr} {es : List E} (h : PEs X [x, y, z] (es.map (rdO M G CL C))) : ∃ a b c, es = [a, b, c] ∧ PE X x (rdO M G CL C a) ∧ PE X y (rdO M G CL C b) ∧ PE X z (rdO M G CL C c) := by
  obtain ⟨t, u, w, e, h1, h2, h3⟩ := h.three
  obtain ⟨a, b, c, rfl, rfl, rfl, rfl⟩ := map3 e
  exact ⟨a, b, c, rfl, h1, h2, h3⟩
theorem plainIx {b : Expr} (h : notSlice b = true) : PlainIx b := fun o i => by cases b <;> first | rfl | cases h
/-! ### operands with what is known of each at once -/
theorem tM_mono {m : Env → Option (O × Env)} {σ : L2.St} {H : Hp} {Q Q' : VK} (h : tM M m σ H Q) (w : ∀ v H, Q v H → Q' v H) : tM M m σ H Q' := by
  obtain ⟨Z, ρ, φ, o, ρ', e, hm, q⟩ := h
  exact ⟨Z, ρ, φ, o, ρ', e, hm, fun v Z' H' φ' f st e' r hf => w v H' (q v Z' H' φ' f st e' r hf)⟩
theorem rdO_mono {e : E} {σ : L2.St} {H : Hp} {Q Q' : VK} (h : rdO M G CL C e σ H Q) (w : ∀ v H, Q v H → Q' v H) : rdO M G CL C e σ H Q' := by
  cases e <;> first
    | exact tM_mono h w
    | (obtain ⟨v, h1, h2⟩ := h; exact ⟨v, h1, w _ _ h2⟩)
def nestC : List TE → List (V → Hp → Prop) → TA
  | t :: ts, P :: Ps => fun σ H K => t σ H fun v H1 => P v H1 ∧ nestC ts Ps σ H1 fun vs H2 => K (v :: vs) H2
  | _, _ => tNil
def CkOk (M : Mt) : List E → List D → List (V → Hp → Prop) → Prop
  | e :: es, d :: ds, P :: Ps => ((∀ i, e ≠ .bw i) → ∀ Z H v, Sub Z H → Rp M Z d v → P v H) ∧ (∀ i, e = .bw i → ∀ v H, P v H) ∧ CkOk M es ds Ps
  | [], [], [] => True
  | _, _, _ => False
theorem opsC : ∀ (es : List E) {Z H : Hp} {σ : L2.St} {ρ ρ' : Env} {φ : Nat → List Addr} {ds : List D} {Ps : List (V → Hp → Prop)} {K : List V → Hp → Prop}, EOk M Z H σ ρ φ → evO G CL C es ρ = some (ds, ρ') → CkOk M es ds Ps →
    (∀ vs Z' H' φ', Stp Z H (Own ρ φ) Z' H' (Own ρ' φ') → EOk M Z' H' σ ρ' φ' → RpWs M Z' H' ds vs → K vs H') → nestC (es.map (rdO M G CL C)) Ps σ H K
  | [], Z, H, σ, ρ, ρ', φ, ds, Ps, K, e, h, hp, k => by
    simp only [evO, Option.some.injEq, Prod.mk.injEq] at h
    obtain ⟨rfl, rfl⟩ := h
    exact k [] Z H φ .refl e rfl
  | x :: es, Z, H, σ, ρ, ρ', φ, ds, Ps, K, e, h, hp, k => by
    match ds, Ps, hp with
    | d :: ds, P :: Ps, hp =>
    obtain ⟨p1, p2, hp⟩ := hp
    by_cases hb : ∃ i, x = .bw i
    · obtain ⟨i, rfl⟩ := hb
      unfold evO at h
      simp only at h
      cases q0 : getS ρ i with
      | none => rw [q0] at h; cases h
      | some o0 =>
      rw [q0] at h
      simp only at h
      cases q2 : evO G CL C es ρ with
      | none => rw [q2] at h; cases h
      | some p2 =>
        obtain ⟨ds2, ρ2⟩ := p2
        rw [q2] at h
        simp only at h
        cases q3 : getS ρ2 i with
        | none => rw [q3] at h; cases h
        | some o =>
          rw [q3] at h
          simp only [Option.some.injEq, Prod.mk.injEq, List.cons.injEq] at h
          obtain ⟨⟨rfl, rfl⟩, rfl⟩ := h
          obtain ⟨v, hv, _⟩ := e.hold i o0 q0
          refine ⟨v, hv, p2 i rfl v H, ?_⟩
          refine opsC es e q2 hp fun vs Z3 H3 φ3 st3 e3 ra => ?_
          obtain ⟨v', hv', r⟩ := e3.hold i o q3
          rw [hv] at hv'
          cases hv'
          exact k (v :: vs) Z3 H3 φ3 st3 e3 ⟨v, vs, rfl, ⟨o, _, r, rfl⟩, ra⟩
    · have hd : rdO M G CL C x = tM M (ev G CL C x false) := by
        cases x <;> first | rfl | exact absurd ⟨_, rfl⟩ hb
      have h' : (match ev G CL C x false ρ with
          | none => none
          | some (o, ρ1) => match evO G CL C es ρ1 with
            | none => none
            | some (ds, ρ') => some (o.frz :: ds, ρ')) = some (d :: ds, ρ') := by
        cases x <;> first | exact h | exact absurd ⟨_, rfl⟩ hb
      cases q1 : ev G CL C x false ρ with
      | none => rw [q1] at h'; cases h'
      | some p =>
        obtain ⟨o, ρ1⟩ := p
        rw [q1] at h'
        simp only at h'
        cases q2 : evO G CL C es ρ1 with
        | none => rw [q2] at h'; cases h'
        | some p2 =>
          obtain ⟨ds2, ρ2⟩ := p2
          rw [q2] at h'
          simp only [Option.some.injEq, Prod.mk.injEq, List.cons.injEq] at h'
          obtain ⟨⟨rfl, rfl⟩, rfl⟩ := h'
          show nestC (rdO M G CL C x :: es.map (rdO M G CL C)) (P :: Ps) σ H K
          rw [hd]
          refine ⟨Z, ρ, φ, o, ρ1, e, q1, fun v Z1 H1 φ1 f st e1 r hf => ?_⟩
          obtain ⟨Z2, st2, e2, rp⟩ := frozen st e1 r hf
          refine ⟨p1 (fun i e => hb ⟨i, e⟩) Z2 H1 v e2.sub rp, ?_⟩
          refine opsC es e2 q2 hp fun vs Z3 H3 φ3 st3 e3 ra => ?_
          exact k (v :: vs) Z3 H3 φ3 (st2.trans st3) e3 ⟨v, vs, rfl, .of (Rp.mono st3.zz _ _ rp), ra⟩
theorem notBw_ne {e : E} (h : nBw e = true) : ∀ i, e ≠ .bw i := fun i q => by subst q; cases h
/-! ### slices -/
def rSlAll (K : PySem.W.Frag) : V → Option Int → Option Int → Hp → VK → Prop := fun x lo hi H Q => rSlL K x lo hi H Q ∨ rSlA K x lo hi H Q ∨ rSlS x lo hi H Q
theorem sl_all : SlR X (rSlAll X.K) := sl_list.or (sl_tupA.or sl_str)
theorem RpA.cut {Z : Hp} {ds : List D} {vs : List V} (r : RpA M Z ds vs) (lo hi : Option Int) : RpA M Z (cutL ds lo hi) (cutV vs lo hi) := by
  unfold cutL cutV
  rw [r.length]
  exact (r.drop _).take _
theorem sl_srv {Z H : Hp} {x : V} {dx : D} {lo hi : Option Int} {o : O} {Q : VK} (sb : Sub Z H) (hx : RpW M Z H dx x) (e : cutD dx lo hi = some o) (c : Cont M Z H o Q) : rSlAll M.K x lo hi H Q := by
  cases dx with
  | lst ds =>
    cases e
    obtain ⟨a, vs, rfl, h1, h2⟩ := hx.lst sb
    exact .inl ⟨a, vs, rfl, h1, fun p hp => new_lst sb c (h2.cut lo hi) hp⟩
  | tup ds =>
    cases e
    have hx' := hx.ofval rfl
    obtain ⟨a, vs, rfl, h1, h2⟩ := hx.tup sb
    refine .inr (.inl ⟨a, vs, rfl, h1, fun w => ?_, fun _ p hp => new_tup sb c (h2.cut lo hi) hp⟩)
    have : cutL ds lo hi = ds := by
      unfold cutL
      rw [← h2.length, w.1, w.2]
      simp [h2.length]
    rw [this] at c
    exact c.val sb hx'
  | str z =>
    obtain ⟨hz, e⟩ := ite_some e
    cases e
    exact .inr (.inr ⟨z, hx.str, hz, c.val sb rfl⟩)
  | _ => cases e
theorem part_some {d : D} {o : Option Int} (h : partD d = some o) : ∃ i, d = .int i ∧ o = some i := by
  cases d <;> first | (cases h; exact ⟨_, rfl, rfl⟩) | cases h
theorem bi_mem {p : Pr} {x : Str} (h : biOf p = some x) : x ∈ bltNames := by
  cases p <;> simp only [biOf, reduceCtorEq, Option.some.injEq] at h <;> subst h <;> decide
theorem ty_mem {p : Pr} {x : Str} (h : tyOf p = some x) : x ∈ bltNames := by
  cases p <;> simp only [tyOf, reduceCtorEq, Option.some.injEq] at h <;> subst h <;> decide
theorem op_all (g : Gd M T G CL C n X s) {p : Pr} {es : List E} {e : Expr} {xs : List Expr} (h : opShape T s p es e = some xs) (hx : PEs X xs (es.map (rdO M G CL C))) : PE X e (tM M (ev G CL C (.op p es) false)) := by
  unfold opShape at h
  split at h
  · -- a binary operator
    obtain ⟨h1, h⟩ := ite_some h
    cases h
    obtain ⟨a, b, rfl, ha, hb⟩ := hx.es2
    obtain ⟨r, ho, srv⟩ := bin_ok g.k p _ h1
    exact e_op2 (t := fun ta tb => tOp r ta tb) ha hb (fun ta tb => pe_op ho) (fun _ _ _ _ _ q => q) srv
  · obtain ⟨h1, h⟩ := ite_some h
    cases h
    subst h1
    obtain ⟨a, rfl, ha⟩ := hx.es1
    refine e_op1 (t := fun ta => tUn (rU fun i => .int (-i)) ta) ha (fun ta => pe_un un_neg) (fun _ _ _ _ q => q) fun Z H x dx o Q sb hx e c => ?_
    cases dx with
    | int i => cases oi_some e; exact ⟨i, hx.int, c.val sb rfl⟩
    | _ => cases e
  · -- a comparison
    obtain ⟨⟨h1, h2⟩, h⟩ := ite_some h
    cases h
    obtain ⟨a, b, rfl, ha, hb⟩ := hx.es2
    obtain ⟨r, ho, srv⟩ := cmp_ok g.k g.hu p _ h1
    exact e_op2 (t := fun ta tb => tOp r ta tb) ha hb (fun ta tb h3 h4 => pe_cmpR ho h3 h4 h2) (fun _ _ _ _ _ q => q) srv
  · -- a subscript
    split at h
    · split at h
      · -- both bounds
        obtain ⟨hw, h⟩ := ite_some h
        cases h
        obtain ⟨a, b, c, rfl, ha, hb, hc⟩ := hx.es3
        simp only [List.tail_cons, List.all_cons, List.all_nil, Bool.and_true, Bool.and_eq_true] at hw
        refine e_op (pe_slice sl_all ha (po_some hb) (po_some hc)) fun σ H Q Z ρ φ ds ρ' o e h1 h2 q => ?_
        match ds, evO_len h1, h2 with
        | [d1, d2, d3], _, h2 =>
          obtain ⟨i, e1, h2⟩ := Option.bind_eq_some_iff.mp h2
          obtain ⟨j, e2, h2⟩ := Option.bind_eq_some_iff.mp h2
          obtain ⟨i', rfl, rfl⟩ := part_some e1
          obtain ⟨j', rfl, rfl⟩ := part_some e2
          have := opsC (K := fun vs H2 => match vs with | [x, y, z] => rSlAll X.K x (some i') (some j') H2 Q | _ => False) (Ps := [fun _ _ => True, fun v _ => v = .int i', fun v _ => v = .int j']) [a, b, c] e h1
            ⟨fun _ _ _ _ _ _ => True.intro, fun _ _ _ _ => True.intro, fun _ _ _ v _ r => r, fun k hk => absurd hk (notBw_ne hw.1 k), fun _ _ _ v _ r => r, fun k hk => absurd hk (notBw_ne hw.2 k), True.intro⟩ fun vs Z1 H1 φ1 st e1 ra => by
            obtain ⟨v, vs, rfl, r1, w, ws, rfl, r2, u, us, rfl, r3, rfl⟩ := ra
            show rSlAll X.K v (some i') (some j') H1 Q
            rw [g.k]
            exact sl_srv e1.sub r1 h2 (q.cont st e1)
          refine rdO_mono this fun v H1 ⟨_, h3⟩ => rdO_mono h3 fun w H2 ⟨h4, h5⟩ => ⟨i', h4, rdO_mono h5 fun u H3 ⟨h6, h7⟩ => ⟨j', h6, h7⟩⟩
      · -- from
        obtain ⟨hw, h⟩ := ite_some h
        cases h
        obtain ⟨a, b, rfl, ha, hb⟩ := hx.es2
        simp only [List.tail_cons, List.all_cons, List.all_nil, Bool.and_true, Bool.and_eq_true] at hw
        refine e_op (pe_slice sl_all ha (po_some hb) po_none) fun σ H Q Z ρ φ ds ρ' o e h1 h2 q => ?_
        match ds, evO_len h1, h2 with
        | [d1, d2], _, h2 =>
          obtain ⟨i, e1, h2⟩ := Option.bind_eq_some_iff.mp h2
          obtain ⟨i', rfl, rfl⟩ := part_some e1
          have := opsC (K := fun vs H2 => match vs with | [x, y] => rSlAll X.K x (some i') none H2 Q | _ => False) (Ps := [fun _ _ => True, fun v _ => v = .int i']) [a, b] e h1
            ⟨fun _ _ _ _ _ _ => True.intro, fun _ _ _ _ => True.intro, fun _ _ _ v _ r => r, fun k hk => absurd hk (notBw_ne hw k), True.intro⟩ fun vs Z1 H1 φ1 st e1 ra => by
            obtain ⟨v, vs, rfl, r1, w, ws, rfl, r2, rfl⟩ := ra
            show rSlAll X.K v (some i') none H1 Q
            rw [g.k]
            exact sl_srv e1.sub r1 h2 (q.cont st e1)
          refine rdO_mono this fun v H1 ⟨_, h3⟩ => rdO_mono h3 fun w H2 ⟨h4, h5⟩ => ⟨i', h4, h5⟩
      · -- to
        obtain ⟨hw, h⟩ := ite_some h
        cases h
        obtain ⟨a, b, rfl, ha, hb⟩ := hx.es2
        simp only [List.tail_cons, List.all_cons, List.all_nil, Bool.and_true, Bool.and_eq_true] at hw
        refine e_op (pe_slice sl_all ha po_none (po_some hb)) fun σ H Q Z ρ φ ds ρ' o e h1 h2 q => ?_
        match ds, evO_len h1, h2 with
        | [d1, d2], _, h2 =>
          obtain ⟨i, e1, h2⟩ := Option.bind_eq_some_iff.mp h2
          obtain ⟨i', rfl, rfl⟩ := part_some e1
          have := opsC (K := fun vs H2 => match vs with | [x, y] => rSlAll X.K x none (some i') H2 Q | _ => False) (Ps := [fun _ _ => True, fun v _ => v = .int i']) [a, b] e h1
            ⟨fun _ _ _ _ _ _ => True.intro, fun _ _ _ _ => True.intro, fun _ _ _ v _ r => r, fun k hk => absurd hk (notBw_ne hw k), True.intro⟩ fun vs Z1 H1 φ1 st e1 ra => by
            obtain ⟨v, vs, rfl, r1, w, ws, rfl, r2, rfl⟩ := ra
            show rSlAll X.K v none (some i') H1 Q
            rw [g.k]
            exact sl_srv e1.sub r1 h2 (q.cont st e1)
          refine rdO_mono this fun v H1 ⟨_, h3⟩ => rdO_mono h3 fun w H2 ⟨h4, h5⟩ => ⟨i', h4, h5⟩
      · cases h
        obtain ⟨a, rfl, ha⟩ := hx.es1
        refine e_op1 (t := fun ta => tSl (rSlAll X.K) ta tNoPart tNoPart) (r := fun v H Q => rSlAll X.K v none none H Q) ha (fun ta h3 => pe_slice sl_all h3 po_none po_none) (fun ta σ H Q q => q) fun Z H x dx o Q sb hx e c => ?_
        rw [g.k]
        exact sl_srv sb hx e c
      · cases h
    · obtain ⟨⟨h1, h2⟩, h⟩ := ite_some h
      cases h
      subst h1
      obtain ⟨a, b, rfl, ha, hb⟩ := hx.es2
      exact e_op2 (t := fun ta tb => tOp (rIx X.K) ta tb) ha hb (fun ta tb h3 h4 => pe_ix ix_seq h3 h4 (plainIx h2)) (fun _ _ _ _ _ q => q) (idx_srv g.k)
  · -- a field
    split at h
    · rename_i k
      obtain ⟨⟨h1, h2⟩, h⟩ := ite_some h
      cases h
      obtain ⟨a, rfl, ha⟩ := hx.es1
      refine e_op1 (t := fun ta => tFld X.K ta _) (r := fun x H Q => ∃ a C dx fs v, x = .ref a ∧ H a = some (.ins C dx fs) ∧ Cls X.K C ∧ NoAttr X.K C _ ∧ fs.lookup _ = some v ∧ Q v H) ha (fun ta h3 => pe_fld h3 (base_ok h2)) (fun ta σ H Q q => q) fun Z H x dx o Q sb hx e c => ?_
      have e : fldD k dx = some o := e
      cases dx with
      | ins cl fs =>
        obtain ⟨d, e1, rfl⟩ := map_some e
        obtain ⟨a, dx, xs, rfl, r1, r2, r3⟩ := hx.ofval rfl
        obtain ⟨v, l1, l2⟩ := RpF.get g h1 r3 e1
        rw [g.nc] at r2
        obtain ⟨hc, _⟩ := g.cls cl _ (List.getElem?_eq_getElem r2)
        exact ⟨a, M.cl cl, dx, xs, v, rfl, sb _ _ r1, hc.cls, hc.attr _ (List.mem_of_getElem? h1), l1, c.val sb l2⟩
      | _ => cases e
    · cases h
  · -- a built-in of one value
    obtain ⟨⟨h1, h2, h3, h4, h5⟩, h⟩ := ite_some h
    cases h
    obtain ⟨a, rfl, ha⟩ := hx.es1
    obtain ⟨g1, g2, g3⟩ := g.gl h2
    rcases h3 with h3 | h3
    · obtain ⟨id, r, b1, b2, b3⟩ := bi_ok g.k g.calm p _ h3 h4 h5
      have hm := g.blt _ (bi_mem h3)
      exact e_op1 (t := fun ta => tCB r (tCons ta tNil)) (r := fun v H Q => r [v] H Q) ha (fun ta h3 => pe_callB b2 g1 hm b1 (pa_cons h3 pa_nil (starEach_of h1)) g3 g2 (starEach_of h1) rfl) (fun ta σ H Q q => q) b3
    · obtain ⟨id, r, b1, b2, b3⟩ := ty_ok g.k p _ h3
      have hm := g.blt _ (ty_mem h3)
      exact e_op1 (t := fun ta => tCB r (tCons ta tNil)) (r := fun v H Q => r [v] H Q) ha (fun ta h3 => pe_callTy b2 g1 hm b1 (pa_cons h3 pa_nil (starEach_of h1)) g3 g2 (starEach_of h1) rfl) (fun ta σ H Q q => q) b3
  · -- a built-in of two values
    obtain ⟨⟨h1, h2, h3⟩, h⟩ := ite_some h
    obtain ⟨g1, g2, g3⟩ := g.gl h3
    split at h
    · obtain ⟨h4, h⟩ := ite_some h
      cases h
      subst h4
      obtain ⟨a, b, rfl, ha, hb⟩ := hx.es2
      refine e_op2 (t := fun ta tb => tCB (fun xs H Q => ∃ i j, xs = [.int i, .int j] ∧ Q (.int (if j < i then j else i)) H) (tCons ta (tCons tb tNil))) (r := fun v w H Q => ∃ i j, [v, w] = [.int i, .int j] ∧ Q (.int (if j < i then j else i)) H) ha hb (fun ta tb h5 h6 => pe_callB (call_min2 g.calm) g1 (g.blt _ (by decide)) (by decide +kernel) (pa_cons h5 (pa_cons h6 pa_nil (starEach_of h2)) (starEach_of h1)) g3 g2 (starEach_of h1) (stars_none (by simp [h2]))) (fun _ _ _ _ _ q => q) ?_
      intro Z H x y dx dy o Q sb hx hy e c
      obtain ⟨i, j, rfl, rfl, e⟩ := int2_some e
      cases oi_some e
      exact ⟨i, j, by rw [hx.int, hy.int], c.val sb rfl⟩
    · obtain ⟨h4, h⟩ := ite_some h
      cases h
      subst h4
      obtain ⟨a, b, rfl, ha, hb⟩ := hx.es2
      refine e_op2 (t := fun ta tb => tCB (fun xs H Q => ∃ i j, xs = [.int i, .int j] ∧ Q (.int (if j > i then j else i)) H) (tCons ta (tCons tb tNil))) (r := fun v w H Q => ∃ i j, [v, w] = [.int i, .int j] ∧ Q (.int (if j > i then j else i)) H) ha hb (fun ta tb h5 h6 => pe_callB (call_max2 g.calm) g1 (g.blt _ (by decide)) (by decide +kernel) (pa_cons h5 (pa_cons h6 pa_nil (starEach_of h2)) (starEach_of h1)) g3 g2 (starEach_of h1) (stars_none (by simp [h2]))) (fun _ _ _ _ _ q => q) ?_
      intro Z H x y dx dy o Q sb hx hy e c
      obtain ⟨i, j, rfl, rfl, e⟩ := int2_some e
      cases oi_some e
      exact ⟨i, j, by rw [hx.int, hy.int], c.val sb rfl⟩
    · -- isinstance
      rename_i x1 x0 pos1 a0 pos0 p0 b0 t y pos _
      obtain ⟨⟨h4, h5, h6⟩, h⟩ := ite_some h
      cases h
      subst h4
      obtain ⟨a, rfl, ha⟩ := hx.es1
      obtain ⟨y1, y2, y3⟩ := g.gl h5
      have key : ∀ (cv : V) (u : Value), PE X (.Name y pos) (tC cv) → ClsV cv u → (∀ Z H x dx, Sub Z H → RpW M Z H dx x → ∃ tv, TyX M.K H x tv ∧ PySem.W.kitOne M.K tv u = some (isTy1 t dx)) → PE X (.Call (.Name "isinstance" pos1) [a0, .Name y pos] [] pos0) (tM M (ev G CL C (.op (.isi [t]) [a]) false)) := by
        intro cv u hcv hu ht
        refine e_op1 (t := fun ta => tCB (rIsi X.K) (tCons ta (tCons (tC cv) tNil))) (r := fun v H Q => rIsi X.K [v, cv] H Q) ha (fun ta h7 => pe_callB call_isi g1 (g.blt _ (by decide)) boot_isinstance (pa_cons h7 (pa_cons hcv pa_nil rfl) (starEach_of h1)) g3 g2 (starEach_of h1) rfl) (fun _ _ _ _ q => q) ?_
        intro Z H x dx o Q sb hx e c
        have e : ob ([t].any fun t => isTy1 t dx) = some o := e
        cases ob_some e
        obtain ⟨tv, t1, t2⟩ := ht Z H x dx sb hx
        rw [g.k]
        exact ⟨x, cv, tv, u, _, rfl, hu, t1, t2, c.val sb (by simp [Rp])⟩
      rcases h6 with h6 | ⟨h6, h7⟩
      · obtain ⟨nm, k1, k2, k3, k4⟩ := isTy_kit (K := M.K) h6
        refine key (.ty nm) (.type nm) (pe_bltn y1 (g.blt _ ?_) k1 rfl y3 y2) (.ty nm) fun Z H x dx sb hx => ?_
        · match t, h6 with
          | 0, h6 => cases h6; decide
          | 1, h6 => cases h6; decide
          | 2, h6 => cases h6; decide
          | 3, h6 => cases h6; decide
          | 4, h6 => cases h6; decide
          | 5, h6 => cases h6; decide
        · by_cases hd : ∃ c fs, dx = .ins c fs
          · obtain ⟨c, fs, rfl⟩ := hd
            have r2 : c < T.cnm.length := by
              obtain ⟨_, _, _, _, _, r2, _⟩ := hx.ofval rfl
              rw [← g.nc]; exact r2
            obtain ⟨hc, _⟩ := g.cls c _ (List.getElem?_eq_getElem r2)
            rw [g.k] at hc
            exact ⟨_, tyx_ins hx sb hc, by rw [k4]; exact hc.k2 nm k2⟩
          · have hd : ∀ c fs, dx ≠ .ins c fs := fun c fs e => hd ⟨c, fs, e⟩
            exact ⟨_, tyx hx sb hd, k3 dx hd⟩
      · obtain ⟨hc, hm⟩ := g.cls _ _ h7
        rw [g.k] at hc
        refine key (.ref (M.cl (t - 100))) (.ref (M.cl (t - 100))) (pe_glob y1 hm rfl y2) (.own _) fun Z H x dx sb hx => ?_
        by_cases hd : ∃ c fs, dx = .ins c fs
        · obtain ⟨c, fs, rfl⟩ := hd
          have r2 : c < T.cnm.length := by
            obtain ⟨_, _, _, _, _, r2, _⟩ := hx.ofval rfl
            rw [← g.nc]; exact r2
          obtain ⟨hc', _⟩ := g.cls c _ (List.getElem?_eq_getElem r2)
          rw [g.k] at hc'
          refine ⟨_, tyx_ins hx sb hc', ?_⟩
          rw [hc'.k3 (t - 100) (List.getElem?_eq_some_iff.mp h7).1]
          have : isTy1 t (.ins c fs) = (c == t - 100) := by
            have e1 : isTy1 t (.ins c fs) = (t == c + 100) := by
              unfold isTy1
              split <;> first | rfl | (rename_i h; cases h) | skip
              all_goals first | (exfalso; omega) | simp_all
            rw [e1, Bool.eq_iff_iff]
            simp
            omega
          rw [this]
        · have hd : ∀ c fs, dx ≠ .ins c fs := fun c fs e => hd ⟨c, fs, e⟩
          refine ⟨_, tyx hx sb hd, ?_⟩
          rw [hc.k1 (tyV dx) (by cases dx <;> first | (unfold tyV; simp; done) | exact absurd rfl (hd _ _))]
          have : isTy1 t dx = false := by
            cases dx <;> first | exact absurd rfl (hd _ _) | (unfold isTy1; split <;> first | rfl | (exfalso; omega) | (rename_i h; cases h) | simp_all)
          rw [this]
    · cases h
  · cases h
end
end EV

namespace EV
open PyProof.Rows PySem L2 PySem.Spec RZ RT
section
variable {M : Mt} {T : Stat} {G : List D} {CL : List (List Nat)} {C : CallF} {n : Nat} {X : Cx} {s : Sc}
theorem PI.or {tg e : Expr} {w1 w2 : TI} (h1 : PI X tg e w1) (h2 : PI X tg e w2) : PI X tg e (fun σ H R => w1 σ H R ∨ w2 σ H R) :=
  ⟨fun pins s σ H R I h => h.elim (h1.run pins s σ H R I) (h2.run pins s σ H R I)⟩
theorem PI.weak {tg e : Expr} {w1 w2 : TI} (h1 : PI X tg e w1) (h : ∀ σ H R, w2 σ H R → w1 σ H R) : PI X tg e w2 := ⟨fun pins s σ H R I q => h1.run pins s σ H R I (h σ H R q)⟩
/-- J yields the things xs, one after the other -/
structure ItD (M : Mt) (J : It) (Z0 : Hp) (xs : List D) : Prop where
  go : ∀ i H, Sub Z0 H → i < xs.length → J.go i H
  stop : ∀ i H, Sub Z0 H → xs.length ≤ i → J.stop i H
  yld : ∀ i H v H' Z d, Sub Z0 Z → Sub Z H → xs[i]? = some d → J.yld i H v H' → ∃ Z', Ext Z H Z' H' [] ∧ Rp M Z' d v
def tI (M : Mt) (G : List D) (CL : List (List Nat)) (C : CallF) (k : ItK) (es : List E) : TI := fun σ H R => ∃ Z ρ φ ds ρ' xs, EOk M Z H σ ρ φ ∧ evV G CL C es ρ = some (ds, ρ') ∧ iterD k ds = some xs ∧
  ∀ J Z' H' φ', Stp Z H (Own ρ φ) Z' H' (Own ρ' φ') → EOk M Z' H' σ ρ' φ' → ItD M J Z' xs → R J H'
theorem itd_list {Z : Hp} {a : Addr} {vs : List V} {ds : List D} (h : SqL M.K Z a vs) (r : RpA M Z ds vs) : ItD M (Itl M.K a) Z ds where
  go := fun i H sb hi => by
    have : i < vs.length := by rw [r.length]; exact hi
    exact ⟨vs, vs[i], sb.sl h, by simp [this]⟩
  stop := fun i H sb hi => ⟨vs, sb.sl h, by rw [r.length]; exact hi⟩
  yld := fun i H v H' Z1 d s1 s2 hd ⟨e, hy⟩ => by
    subst e
    obtain ⟨w, h1, h2⟩ := r.get hd
    have := hy vs (s2.sl (s1.sl h))
    rw [h1] at this
    cases this
    exact ⟨Z1, .refl s2, Rp.mono s1 _ _ h2⟩
theorem itd_tup {Z : Hp} {a : Addr} {vs : List V} {ds : List D} (h : SqT M.K Z a vs) (r : RpA M Z ds vs) : ItD M (Itt M.K a) Z ds where
  go := fun i H sb hi => by
    have : i < vs.length := by rw [r.length]; exact hi
    exact ⟨vs, vs[i], sb.st h, by simp [this]⟩
  stop := fun i H sb hi => ⟨vs, sb.st h, by rw [r.length]; exact hi⟩
  yld := fun i H v H' Z1 d s1 s2 hd ⟨e, hy⟩ => by
    subst e
    obtain ⟨w, h1, h2⟩ := r.get hd
    have := hy vs (s2.st (s1.st h))
    rw [h1] at this
    cases this
    exact ⟨Z1, .refl s2, Rp.mono s1 _ _ h2⟩
theorem itd_str {Z : Hp} {x : Str} : ItD M (Its x) Z (x.cps.toList.map sign) where
  go := fun i H _ hi => by show i < x.cps.size; simpa using hi
  stop := fun i H _ hi => by show x.cps.size ≤ i; simpa using hi
  yld := fun i H v H' Z1 d s1 s2 hd ⟨e, c, hc, hv⟩ => by
    subst e hv
    have : x.cps.toList[i]? = some c := by simpa using hc
    rw [List.getElem?_map, this] at hd
    cases hd
    exact ⟨Z1, .refl s2, rfl⟩
theorem rngL_get {lo : Int} {n i : Nat} {d : D} (h : (rngL lo n)[i]? = some d) : i < n ∧ d = .int (lo + i) := by
  unfold rngL at h
  rw [List.getElem?_map] at h
  by_cases hi : i < n
  · rw [List.getElem?_range hi] at h
    exact ⟨hi, (Option.some.inj h).symm⟩
  · rw [List.getElem?_eq_none (by simp; omega)] at h
    cases h
theorem itd_rng {Z : Hp} {lo : Int} {n : Nat} : ItD M (Itr lo n) Z (rngL lo n) where
  go := fun i H _ hi => by show i < n; simpa [rngL] using hi
  stop := fun i H _ hi => by show n ≤ i; simpa [rngL] using hi
  yld := fun i H v H' Z1 d s1 s2 hd ⟨e, hv⟩ => by
    subst e hv
    obtain ⟨_, rfl⟩ := rngL_get hd
    exact ⟨Z1, .refl s2, rfl⟩
theorem enumL_get : ∀ {xs : List D} {k i : Nat} {d : D}, (enumL k xs)[i]? = some d → ∃ x, xs[i]? = some x ∧ d = .tup [.int ((k + i : Nat) : Int), x]
  | [], _, _, _, h => by simp [enumL] at h
  | x :: xs, k, 0, d, h => by simp [enumL] at h; exact ⟨x, rfl, by simpa using h.symm⟩
  | x :: xs, k, i + 1, d, h => by
    simp [enumL] at h
    obtain ⟨y, h1, h2⟩ := enumL_get h
    exact ⟨y, by simpa using h1, by rw [h2, show k + 1 + i = k + (i + 1) by omega]⟩
theorem enumL_len : ∀ (xs : List D) (k : Nat), (enumL k xs).length = xs.length
  | [], _ => rfl
  | x :: xs, k => by simp [enumL, enumL_len xs]
/-- a new tuple -/
theorem ext_tup {Z H : Hp} {p : Addr} {ds : List D} {vs : List V} (s : Sub Z H) (hp : H p = none) (r : RpA M Z ds vs) : ∃ Z', Ext Z H Z' (upd H p (.tup vs)) [] ∧ Rp M Z' (.tup ds) (.ref p) := by
  have := new_tup (Q := fun v H' => ∃ Z', Ext Z H Z' H' [] ∧ Rp M Z' (.tup ds) v) s (fun v Z' H' f x r => by
    obtain ⟨rfl, r⟩ := r
    exact ⟨Z', x, r⟩) r hp
  exact this
theorem itd_enum {Z : Hp} {a : Addr} {vs : List V} {ds : List D} (h : SqL M.K Z a vs) (r : RpA M Z ds vs) : ItD M (Ite M.K a) Z (enumL 0 ds) where
  go := fun i H sb hi => by
    rw [enumL_len] at hi
    have : i < vs.length := by rw [r.length]; exact hi
    exact ⟨vs, vs[i], sb.sl h, by simp [this]⟩
  stop := fun i H sb hi => ⟨vs, sb.sl h, by rw [r.length]; rw [enumL_len] at hi; exact hi⟩
  yld := fun i H v H' Z1 d s1 s2 hd ⟨p, x, e1, e2, e3, hy⟩ => by
    subst e1 e3
    obtain ⟨d', h1, rfl⟩ := enumL_get hd
    obtain ⟨w, h2, h3⟩ := r.get h1
    have := hy vs (s2.sl (s1.sl h))
    rw [h2] at this
    cases this
    rw [Nat.zero_add]
    exact ext_tup s2 e2 ⟨.int i, [_], rfl, rfl, _, [], rfl, Rp.mono s1 _ _ h3, rfl⟩
theorem zipL_get : ∀ {xs ys : List D} {i : Nat} {d : D}, (zipL xs ys)[i]? = some d → ∃ x y, xs[i]? = some x ∧ ys[i]? = some y ∧ d = .tup [x, y]
  | [], ys, _, _, h => by simp [zipL] at h
  | x :: xs, [], _, _, h => by simp [zipL] at h
  | x :: xs, y :: ys, 0, d, h => by simp [zipL] at h; exact ⟨x, y, rfl, rfl, h.symm⟩
  | x :: xs, y :: ys, i + 1, d, h => by
    simp [zipL] at h
    obtain ⟨u, w, h1, h2, h3⟩ := zipL_get h
    exact ⟨u, w, by simpa using h1, by simpa using h2, h3⟩
theorem zipL_len : ∀ (xs ys : List D), (zipL xs ys).length = min xs.length ys.length
  | [], ys => by simp [zipL]
  | x :: xs, [] => by simp [zipL]
  | x :: xs, y :: ys => by simp [zipL, zipL_len xs ys]
theorem itd_zip {Z : Hp} {a b : Addr} {vs ws : List V} {ds es : List D} (h : SqL M.K Z a vs) (r : RpA M Z ds vs) (h' : SqL M.K Z b ws) (r' : RpA M Z es ws) : ItD M (Itz M.K a b) Z (zipL ds es) where
  go := fun i H sb hi => by
    rw [zipL_len] at hi
    have h1 : i < vs.length := by rw [r.length]; omega
    have h2 : i < ws.length := by rw [r'.length]; omega
    exact ⟨vs, ws, vs[i], ws[i], sb.sl h, sb.sl h', by simp [h1], by simp [h2]⟩
  stop := fun i H sb hi => ⟨vs, ws, sb.sl h, sb.sl h', by rw [r.length, r'.length]; rw [zipL_len] at hi; omega⟩
  yld := fun i H v H' Z1 d s1 s2 hd ⟨p, x, y, e1, e2, e3, hx, hy⟩ => by
    subst e1 e3
    obtain ⟨d1, d2, h1, h2, rfl⟩ := zipL_get hd
    obtain ⟨w, h3, h4⟩ := r.get h1
    obtain ⟨u, h5, h6⟩ := r'.get h2
    have q1 := hx vs (s2.sl (s1.sl h))
    have q2 := hy ws (s2.sl (s1.sl h'))
    rw [h3] at q1
    rw [h5] at q2
    cases q1
    cases q2
    exact ext_tup s2 e2 ⟨_, [_], rfl, Rp.mono s1 _ _ h4, _, [], rfl, Rp.mono s1 _ _ h6, rfl⟩
theorem itd_zipT {Z : Hp} {a b : Addr} {vs ws : List V} {ds es : List D} (h : SqT M.K Z a vs) (r : RpA M Z ds vs) (h' : SqT M.K Z b ws) (r' : RpA M Z es ws) : ItD M (ItzT M.K a b) Z (zipL ds es) where
  go := fun i H sb hi => by
    rw [zipL_len] at hi
    have h1 : i < vs.length := by rw [r.length]; omega
    have h2 : i < ws.length := by rw [r'.length]; omega
    exact ⟨vs, ws, vs[i], ws[i], sb.st h, sb.st h', by simp [h1], by simp [h2]⟩
  stop := fun i H sb hi => ⟨vs, ws, sb.st h, sb.st h', by rw [r.length, r'.length]; rw [zipL_len] at hi; omega⟩
  yld := fun i H v H' Z1 d s1 s2 hd ⟨p, x, y, e1, e2, e3, hx, hy⟩ => by
    subst e1 e3
    obtain ⟨d1, d2, h1, h2, rfl⟩ := zipL_get hd
    obtain ⟨w, h3, h4⟩ := r.get h1
    obtain ⟨u, h5, h6⟩ := r'.get h2
    have q1 := hx vs (s2.st (s1.st h))
    have q2 := hy ws (s2.st (s1.st h'))
    rw [h3] at q1
    rw [h5] at q2
    cases q1
    cases q2
    exact ext_tup s2 e2 ⟨_, [_], rfl, Rp.mono s1 _ _ h4, _, [], rfl, Rp.mono s1 _ _ h6, rfl⟩
theorem rev_get {α : Type} {xs : List α} {i : Nat} {d : α} (h : xs.reverse[i]? = some d) : i < xs.length ∧ xs[xs.length - 1 - i]? = some d := by
  have hi : i < xs.length := by
    have := (List.getElem?_eq_some_iff.mp h).1
    simpa using this
  rw [List.getElem?_reverse hi] at h
  exact ⟨hi, h⟩
theorem itd_rev {Z : Hp} {a : Addr} {vs : List V} {ds : List D} (h : SqL M.K Z a vs) (r : RpA M Z ds vs) : ItD M (Itv M.K a vs.length) Z ds.reverse where
  go := fun i H sb hi => by
    have : i < vs.length := by rw [r.length]; simpa using hi
    exact ⟨this, vs, vs[vs.length - 1 - i], sb.sl h, by rw [List.getElem?_eq_getElem]⟩
  stop := fun i H sb hi => by show vs.length ≤ i; rw [r.length]; simpa using hi
  yld := fun i H v H' Z1 d s1 s2 hd ⟨e, hy⟩ => by
    subst e
    obtain ⟨h1, h2⟩ := rev_get hd
    rw [← r.length] at h2
    obtain ⟨w, h3, h4⟩ := r.get h2
    have := hy vs (s2.sl (s1.sl h))
    rw [h3] at this
    cases this
    exact ⟨Z1, .refl s2, Rp.mono s1 _ _ h4⟩
theorem itd_revT {Z : Hp} {a : Addr} {vs : List V} {ds : List D} (h : SqT M.K Z a vs) (r : RpA M Z ds vs) : ItD M (ItvT M.K a vs.length) Z ds.reverse where
  go := fun i H sb hi => by
    have : i < vs.length := by rw [r.length]; simpa using hi
    exact ⟨this, vs, vs[vs.length - 1 - i], sb.st h, by rw [List.getElem?_eq_getElem]⟩
  stop := fun i H sb hi => by show vs.length ≤ i; rw [r.length]; simpa using hi
  yld := fun i H v H' Z1 d s1 s2 hd ⟨e, hy⟩ => by
    subst e
    obtain ⟨h1, h2⟩ := rev_get hd
    rw [← r.length] at h2
    obtain ⟨w, h3, h4⟩ := r.get h2
    have := hy vs (s2.st (s1.st h))
    rw [h3] at this
    cases this
    exact ⟨Z1, .refl s2, Rp.mono s1 _ _ h4⟩
theorem PEs.vs1 {x : Expr} {es : List E} (h : PEs X [x] (es.map (rdV M G CL C))) : ∃ a, es = [a] ∧ PE X x (rdV M G CL C a) := by
  obtain ⟨t, e, h⟩ := h.one
  obtain ⟨a, rfl, rfl⟩ := map1 e
  exact ⟨a, rfl, h⟩
theorem PEs.vs2 {x y : Expr} {es : List E} (h : PEs X [x, y] (es.map (rdV M G CL C))) : ∃ a b, es = [a, b] ∧ PE X x (rdV M G CL C a) ∧ PE X y (rdV M G CL C b) := by
  obtain ⟨t, u, e, h1, h2⟩ := h.two
  obtain ⟨a, b, rfl, rfl, rfl⟩ := map2 e
  exact ⟨a, b, rfl, h1, h2⟩
theorem evV_len : ∀ {es : List E} {ρ ρ' : Env} {ds : List D}, evV G CL C es ρ = some (ds, ρ') → ds.length = es.length
  | [], _, _, _, h => by simp only [evV, Option.some.injEq, Prod.mk.injEq] at h; obtain ⟨rfl, _⟩ := h; rfl
  | e :: es, ρ, ρ', ds, h => by
    unfold evV at h
    split at h
    · cases h
    · split at h
      · cases h
      · rename_i q; cases h; simp [evV_len q]
theorem vals1_ok {a : E} {Z H : Hp} {σ : L2.St} {ρ ρ' : Env} {φ : Nat → List Addr} {ds : List D} {K : V → Hp → Prop} (e : EOk M Z H σ ρ φ) (h : evV G CL C [a] ρ = some (ds, ρ'))
    (k : ∀ d v Z' H' φ', ds = [d] → Stp Z H (Own ρ φ) Z' H' (Own ρ' φ') → EOk M Z' H' σ ρ' φ' → Rp M Z' d v → K v H') : rdV M G CL C a σ H K :=
  vals_ok (K := fun vs H => match vs with | [v] => K v H | _ => False) [a] e h fun vs Z' H' φ' st e' r => by
    match ds, evV_len h, r with
    | [d], _, r =>
      obtain ⟨v, ws, rfl, r1, rfl⟩ := r
      exact k d v Z' H' φ' rfl st e' r1
theorem vals2_ok {a b : E} {Z H : Hp} {σ : L2.St} {ρ ρ' : Env} {φ : Nat → List Addr} {ds : List D} {K : V → V → Hp → Prop} (e : EOk M Z H σ ρ φ) (h : evV G CL C [a, b] ρ = some (ds, ρ'))
    (k : ∀ d v d' v' Z' H' φ', ds = [d, d'] → Stp Z H (Own ρ φ) Z' H' (Own ρ' φ') → EOk M Z' H' σ ρ' φ' → Rp M Z' d v → Rp M Z' d' v' → K v v' H') : rdV M G CL C a σ H fun v H1 => rdV M G CL C b σ H1 fun w H2 => K v w H2 :=
  vals_ok (K := fun vs H => match vs with | [v, w] => K v w H | _ => False) [a, b] e h fun vs Z' H' φ' st e' r => by
    match ds, evV_len h, r with
    | [d, d'], _, r =>
      obtain ⟨v, ws, rfl, r1, w, us, rfl, r2, rfl⟩ := r
      exact k d v d' w Z' H' φ' rfl st e' r1 r2
theorem it_ok (g : Gd M T G CL C n X s) {k : ItK} {es : List E} {tg e : Expr} {xs : List Expr} (h : itShape s tg k e = some xs) (hx : PEs X xs (es.map (rdV M G CL C))) : PI X tg e (tI M G CL C k es) := by
  cases k with
  | plain =>
    obtain ⟨_, h⟩ := ite_some h
    cases h
    obtain ⟨a, rfl, ha⟩ := hx.vs1
    refine PI.weak (PI.or (pi_list ha) (PI.or (pi_tup ha) (pi_str ha))) fun σ H R ⟨Z, ρ, φ, ds, ρ', xs, e, h1, h2, q⟩ => ?_
    match ds, evV_len h1, h2 with
    | [.lst ys], _, h2 =>
      cases h2
      refine .inl (vals1_ok e h1 fun d v Z' H' φ' hd st e' r => ?_)
      cases hd
      obtain ⟨a, vs, rfl, r1, r2⟩ := r
      rw [g.k]
      exact ⟨a, rfl, ⟨vs, e'.sub.sl r1⟩, q _ Z' H' φ' st e' (itd_list r1 r2)⟩
    | [.tup ys], _, h2 =>
      cases h2
      refine .inr (.inl (vals1_ok e h1 fun d v Z' H' φ' hd st e' r => ?_))
      cases hd
      obtain ⟨a, vs, rfl, r1, r2⟩ := r
      rw [g.k]
      exact ⟨a, rfl, ⟨vs, e'.sub.st r1⟩, q _ Z' H' φ' st e' (itd_tup r1 r2)⟩
    | [.str z], _, h2 =>
      cases h2
      refine .inr (.inr (vals1_ok e h1 fun d v Z' H' φ' hd st e' r => ?_))
      cases hd
      exact ⟨z, r, q _ Z' H' φ' st e' itd_str⟩
  | rng1 =>
    simp only [itShape] at h
    split at h
    · obtain ⟨⟨hxx, h1, h2⟩, hh⟩ := ite_some h
      subst hxx
      cases hh
      obtain ⟨a, rfl, ha⟩ := hx.vs1
      refine PI.weak (pi_range1 (g.gl h1).1 (g.blt _ (by decide)) (pa_cons ha pa_nil (starEach_of h2)) (starEach_of h2)) fun σ H R ⟨Z, ρ, φ, ds, ρ', xs, e, h1, h2, q⟩ => ?_
      match ds, evV_len h1, h2 with
      | [.int j], _, h2 =>
        obtain ⟨hj, h2⟩ := ite_some h2
        cases h2
        refine vals1_ok (K := fun v H1 => ∃ j : Int, [v] = [.int j] ∧ -(2 ^ 62) ≤ j ∧ j < 2 ^ 62 ∧ R (Itr 0 j.toNat) H1) e h1 fun d v Z' H' φ' hd st e' r => ?_
        cases hd
        exact ⟨j, by rw [show v = V.int j from r], hj.1, hj.2, q _ Z' H' φ' st e' itd_rng⟩
    · cases h
  | rng2 =>
    simp only [itShape] at h
    split at h
    · obtain ⟨⟨hxx, h1, h2, h3⟩, hh⟩ := ite_some h
      subst hxx
      cases hh
      obtain ⟨a, b, rfl, ha, hb⟩ := hx.vs2
      refine PI.weak (pi_range2 (g.gl h1).1 (g.blt _ (by decide)) (pa_cons ha (pa_cons hb pa_nil (starEach_of h3)) (starEach_of h2)) (by rw [starEach_of h2, starEach_of h3]; rfl) (starEach_of h3)) fun σ H R ⟨Z, ρ, φ, ds, ρ', xs, e, h1, h2, q⟩ => ?_
      match ds, evV_len h1, h2 with
      | [.int i, .int j], _, h2 =>
        obtain ⟨hj, h2⟩ := ite_some h2
        cases h2
        refine vals2_ok (K := fun v w H1 => ∃ i j : Int, [v, w] = [.int i, .int j] ∧ (-(2 ^ 62) ≤ i ∧ i < 2 ^ 62 ∧ -(2 ^ 62) ≤ j ∧ j < 2 ^ 62) ∧ R (Itr i (j - i).toNat) H1) e h1 fun d v d' v' Z' H' φ' hd st e' r r' => ?_
        cases hd
        exact ⟨i, j, by rw [show v = V.int i from r, show v' = V.int j from r'], hj, q _ Z' H' φ' st e' itd_rng⟩
    · cases h
  | enum =>
    simp only [itShape] at h
    split at h
    · obtain ⟨⟨hxx, h1, h2⟩, hh⟩ := ite_some h
      subst hxx
      cases hh
      obtain ⟨a, rfl, ha⟩ := hx.vs1
      refine PI.weak (pi_enum (g.gl h1).1 (g.blt _ (by decide)) (pa_cons ha pa_nil (starEach_of h2)) (starEach_of h2)) fun σ H R ⟨Z, ρ, φ, ds, ρ', xs, e, h1, h2, q⟩ => ?_
      match ds, evV_len h1, h2 with
      | [.lst ys], _, h2 =>
        cases h2
        refine vals1_ok (K := fun v H1 => ∃ a xs, [v] = [.ref a] ∧ SqL X.K H1 a xs ∧ R (Ite X.K a) H1) e h1 fun d v Z' H' φ' hd st e' r => ?_
        cases hd
        obtain ⟨a, vs, rfl, r1, r2⟩ := r
        rw [g.k]
        exact ⟨a, vs, rfl, e'.sub.sl r1, q _ Z' H' φ' st e' (itd_enum r1 r2)⟩
    · cases h
  | zip =>
    simp only [itShape] at h
    split at h
    · obtain ⟨⟨hxx, h1, h2, h3⟩, hh⟩ := ite_some h
      subst hxx
      cases hh
      obtain ⟨a, b, rfl, ha, hb⟩ := hx.vs2
      refine PI.weak (pi_zipA (g.gl h1).1 (g.blt _ (by decide)) (pa_cons ha (pa_cons hb pa_nil (starEach_of h3)) (starEach_of h2)) (starEach_of h2) (stars_none (by simp [h3]))) fun σ H R ⟨Z, ρ, φ, ds, ρ', xs, e, h1, h2, q⟩ => ?_
      match ds, evV_len h1, h2 with
      | [.lst ys, .lst zs], _, h2 =>
        cases h2
        refine vals2_ok (K := fun v w H1 => ∃ a b xs ys, [v, w] = [.ref a, .ref b] ∧ ((SqL X.K H1 a xs ∧ SqL X.K H1 b ys ∧ R (Itz X.K a b) H1) ∨ (SqT X.K H1 a xs ∧ SqT X.K H1 b ys ∧ R (ItzT X.K a b) H1))) e h1 fun d v d' v' Z' H' φ' hd st e' r r' => ?_
        cases hd
        obtain ⟨a, vs, rfl, r1, r2⟩ := r
        obtain ⟨b, ws, rfl, r3, r4⟩ := r'
        rw [g.k]
        exact ⟨a, b, vs, ws, rfl, .inl ⟨e'.sub.sl r1, e'.sub.sl r3, q _ Z' H' φ' st e' (itd_zip r1 r2 r3 r4)⟩⟩
      | [.tup ys, .tup zs], _, h2 =>
        cases h2
        refine vals2_ok (K := fun v w H1 => ∃ a b xs ys, [v, w] = [.ref a, .ref b] ∧ ((SqL X.K H1 a xs ∧ SqL X.K H1 b ys ∧ R (Itz X.K a b) H1) ∨ (SqT X.K H1 a xs ∧ SqT X.K H1 b ys ∧ R (ItzT X.K a b) H1))) e h1 fun d v d' v' Z' H' φ' hd st e' r r' => ?_
        cases hd
        obtain ⟨a, vs, rfl, r1, r2⟩ := r
        obtain ⟨b, ws, rfl, r3, r4⟩ := r'
        rw [g.k]
        exact ⟨a, b, vs, ws, rfl, .inr ⟨e'.sub.st r1, e'.sub.st r3, q _ Z' H' φ' st e' (itd_zipT r1 r2 r3 r4)⟩⟩
    · cases h
  | rev =>
    simp only [itShape] at h
    split at h
    · obtain ⟨⟨hxx, h1, h2⟩, hh⟩ := ite_some h
      subst hxx
      cases hh
      obtain ⟨a, rfl, ha⟩ := hx.vs1
      refine PI.weak (pi_revA (g.gl h1).1 (g.blt _ (by decide)) ha (starEach_of h2)) fun σ H R ⟨Z, ρ, φ, ds, ρ', xs, e, h1, h2, q⟩ => ?_
      match ds, evV_len h1, h2 with
      | [.lst ys], _, h2 =>
        cases h2
        refine vals1_ok e h1 fun d v Z' H' φ' hd st e' r => ?_
        cases hd
        obtain ⟨a, vs, rfl, r1, r2⟩ := r
        rw [g.k]
        exact ⟨a, vs, rfl, .inl ⟨e'.sub.sl r1, q _ Z' H' φ' st e' (itd_rev r1 r2)⟩⟩
      | [.tup ys], _, h2 =>
        cases h2
        refine vals1_ok e h1 fun d v Z' H' φ' hd st e' r => ?_
        cases hd
        obtain ⟨a, vs, rfl, r1, r2⟩ := r
        rw [g.k]
        exact ⟨a, vs, rfl, .inr ⟨e'.sub.st r1, q _ Z' H' φ' st e' (itd_revT r1 r2)⟩⟩
    · cases h
  | items => cases h
  | vals => cases h
/-! ### targets -/
def gMany : List Nat → TGs
  | [] => gNil
  | i :: is => gCons (gName i) (gMany is)
def gT (K : PySem.W.Frag) : Tg → TG
  | .one i => gName i
  | .many is => gTup K is.length (gMany is)
theorem gs_ok (g : Gd M T G CL C n X s) : ∀ {is : List Nat} {es : List Expr}, mTgs s is es = true → PGs X es (gMany is) ∧ (assignEach es X.env).length = is.length ∧ (assignEach es X.env).findIdx? (·.1) = none
  | [], [], _ => ⟨pgs_nil, rfl, rfl⟩
  | [], _ :: _, h => by cases h
  | i :: is, e :: es, h => by
    cases e with
    | Name x p =>
      unfold mTgs at h
      rw [Bool.and_eq_true] at h
      obtain ⟨h1, h2, h3⟩ := gs_ok g h.2
      obtain ⟨l1, l2, l3, _⟩ := g.loc (pos := p) h.1
      refine ⟨pgs_cons (pg_name g.nd l1 l2 l3) h1, ?_, ?_⟩
      · show (assignEach es X.env).length + 1 = _
        rw [h2]; rfl
      · show List.findIdx? (·.1) ((false, assign (.Name x p) X.env) :: assignEach es X.env) = none
        rw [List.findIdx?_cons]
        simp [h3]
    | _ => cases h
  | _ :: _, [], h => by cases h
theorem g_ok (g : Gd M T G CL C n X s) {tg : Tg} {e : Expr} (h : mTg s tg e = true) : PG X e (gT M.K tg) := by
  unfold mTg at h
  split at h
  · obtain ⟨l1, l2, l3, _⟩ := g.loc (pos := default) h
    exact pg_name g.nd l1 l2 l3
  · obtain ⟨h1, h2, h3⟩ := gs_ok g h
    rw [← g.k]
    exact pg_tup g.calm h1 h2 h3
  · cases h
end
end EV

namespace EV
open PyProof.Rows PySem L2 PySem.Spec
section
variable {M : Mt} {T : Stat} {G : List D} {CL : List (List Nat)} {C : CallF} {n : Nat} {X : Cx} {s : Sc}
theorem setS_out : ∀ {ρ : Env} {i : Nat} {o : Option O}, ρ.length ≤ i → setS ρ i o = ρ
  | [], _, _, _ => rfl
  | _ :: _, 0, _, h => by simp at h
  | x :: r, i + 1, o, h => by
    have : r.length ≤ i := by simpa using h
    simp [setS, setS_out this]
theorem EOk.setV {Z H : Hp} {σ : L2.St} {ρ : Env} {φ : Nat → List Addr} {i : Nat} {d : D} {v : V} (e : EOk M Z H σ ρ φ) (r : Rp M Z d v) : EOk M Z H (σ.set i (some v)) (setS ρ i (some (.val d))) (fun j => if j = i then [] else φ j) := by
  by_cases hi : i < ρ.length
  · exact e.set (f := []) ⟨rfl, r⟩ hi fun a ha => absurd ha (by simp)
  · rw [setS_out (by omega), List.set_eq_of_length_le (by rw [e.len]; omega)]
    have ne : ∀ j o, getS ρ j = some o → j ≠ i := fun j o hj q => by have := getS_lt hj; omega
    refine ⟨e.sub, e.len, fun j o hj => ?_, fun a ⟨j, o, hj, hm⟩ => ?_, fun j k o u a hj hk mj mk => ?_⟩
    · simpa [ne j o hj] using e.hold j o hj
    · simp [ne j o hj] at hm; exact e.out a ⟨j, o, hj, hm⟩
    · simp [ne j o hj] at mj; simp [ne k u hk] at mk; exact e.dis j k o u a hj hk mj mk
theorem many_ok : ∀ {is : List Nat} {ds : List D} {vs : List V} {Z H : Hp} {σ : L2.St} {ρ ρ' : Env} {φ : Nat → List Addr} {K : L2.St → Hp → Prop}, bindMany is ds ρ = some ρ' → EOk M Z H σ ρ φ → RpA M Z ds vs →
    (∀ σ' φ', σ'.length = σ.length → (∀ i, i ∉ is → σ'[i]? = σ[i]?) → EOk M Z H σ' ρ' φ' → (∀ a, Own ρ' φ' a → Own ρ φ a) → (∀ i, i ∉ is → getS ρ' i = getS ρ i) → K σ' H) → gMany is vs σ H K
  | [], [], vs, Z, H, σ, ρ, ρ', φ, K, h, e, r, k => by
    cases h
    cases r
    exact ⟨rfl, k σ φ rfl (fun _ _ => rfl) e (fun _ h => h) fun _ _ => rfl⟩
  | [], _ :: _, _, _, _, _, _, _, _, _, h, _, _, _ => by cases h
  | _ :: _, [], _, _, _, _, _, _, _, _, h, _, _, _ => by cases h
  | i :: is, d :: ds, vs, Z, H, σ, ρ, ρ', φ, K, h, e, r, k => by
    obtain ⟨v, ws, rfl, r1, r2⟩ := r
    refine ⟨v, ws, rfl, ?_⟩
    refine many_ok h (e.setV (i := i) r1) r2 fun σ' φ' h1 h2 h3 h4 h5 => ?_
    refine k σ' φ' (by rw [h1, List.length_set]) (fun j hj => ?_) h3 (fun a ha => ?_) fun j hj => ?_
    · simp only [List.mem_cons, not_or] at hj
      rw [h2 j hj.2, List.getElem?_set_ne (Ne.symm hj.1)]
    · rcases (h4 a ha).set with z | z
      · cases z
      · exact z
    · simp only [List.mem_cons, not_or] at hj
      rw [h5 j hj.2, getS_set_ne hj.1]
theorem bindMany_len : ∀ {is : List Nat} {ds : List D} {ρ ρ' : Env}, bindMany is ds ρ = some ρ' → ds.length = is.length
  | [], [], _, _, _ => rfl
  | [], _ :: _, _, _, h => by cases h
  | _ :: _, [], _, _, h => by cases h
  | i :: is, d :: ds, ρ, ρ', h => by
    have h' : bindMany is ds (setS ρ i (some (.val d))) = some ρ' := h
    simp [bindMany_len h']
theorem bind_ok {tg : Tg} {d : D} {v : V} {Z H : Hp} {σ : L2.St} {ρ ρ' : Env} {φ : Nat → List Addr} {K : L2.St → Hp → Prop} (h : bindT tg d ρ = some ρ') (e : EOk M Z H σ ρ φ) (r : Rp M Z d v)
    (k : ∀ σ' φ', σ'.length = σ.length → (∀ i, i ∉ tg.slots → σ'[i]? = σ[i]?) → EOk M Z H σ' ρ' φ' → (∀ a, Own ρ' φ' a → Own ρ φ a) → (∀ i, i ∉ tg.slots → getS ρ' i = getS ρ i) → K σ' H) : gT M.K tg v σ H K := by
  cases tg with
  | one i =>
    cases h
    refine k _ _ (by simp) (fun j hj => ?_) (e.setV r) (fun a ha => ?_) fun j hj => ?_
    · simp [Tg.slots] at hj
      rw [List.getElem?_set_ne (Ne.symm hj)]
    · rcases ha.set with z | z
      · cases z
      · exact z
    · simp [Tg.slots] at hj
      rw [getS_set_ne hj]
  | many is =>
    cases d with
    | tup ds =>
      obtain ⟨a, vs, rfl, r1, r2⟩ := r
      exact ⟨a, vs, rfl, e.sub.st r1, by rw [r2.length]; exact bindMany_len h, many_ok h e r2 k⟩
    | _ => cases h
theorem wipe_len (σ : L2.St) (vs : List Nat) : (wipe σ vs).length = σ.length := wipe_length σ vs
theorem wipe_in {σ : L2.St} {i : Nat} : ∀ {vs : List Nat}, i ∈ vs → i < σ.length → (wipe σ vs)[i]? = some none
  | v :: vs, h, hi => by
    unfold wipe
    by_cases e : v = i
    · subst e
      rw [List.getElem?_set_self (by rw [wipe_length]; exact hi)]
    · rw [List.getElem?_set_ne e]
      rcases List.mem_cons.mp h with h | h
      · exact absurd h.symm e
      · exact wipe_in h hi
theorem wipe_eq {σ σ' : L2.St} {vs : List Nat} (hl : σ'.length = σ.length) (h : ∀ i, i ∉ vs → σ'[i]? = (wipe σ vs)[i]?) : wipe σ' vs = wipe σ vs := by
  apply List.ext_getElem?
  intro i
  by_cases hi : i ∈ vs
  · by_cases hl' : i < σ.length
    · rw [wipe_in hi hl', wipe_in hi (by rw [hl]; exact hl')]
    · rw [List.getElem?_eq_none (by rw [wipe_length]; omega), List.getElem?_eq_none (by rw [wipe_length]; omega)]
  · have := h i hi
    rw [wipe_out hi, this]
theorem wipe_wipe (σ : L2.St) (vs : List Nat) : wipe (wipe σ vs) vs = wipe σ vs := wipe_eq (wipe_length _ _) fun _ _ => rfl
theorem EOk.wipe {Z H : Hp} {σ : L2.St} {ρ : Env} {φ : Nat → List Addr} (e : EOk M Z H σ ρ φ) (vs : List Nat) : EOk M Z H (L2.wipe σ vs) (wipeS ρ vs) φ := by
  have h1 := e.less (ρ' := wipeS ρ vs) (wipeS_length _ _) fun i o h => (wipeS_some h).1
  refine ⟨h1.sub, by rw [wipe_length, h1.len], fun i o hi => ?_, h1.out, h1.dis⟩
  obtain ⟨_, h2⟩ := wipeS_some hi
  rw [wipe_out h2]
  exact h1.hold i o hi
theorem own_wipe {ρ : Env} {φ : Nat → List Addr} {vs : List Nat} {a : Addr} (x : Own (wipeS ρ vs) φ a) : Own ρ φ a := x.less fun _ _ h => (wipeS_some h).1
theorem EOk.upd {Z H : Hp} {σ : L2.St} {ρ : Env} {φ : Nat → List Addr} {a : Addr} {o : HO} (e : EOk M Z H σ ρ φ) (hz : Z a = none) (hn : ¬ Own ρ φ a) : EOk M Z (L2.upd H a o) σ ρ φ := by
  refine ⟨fun b u q => by rw [upd_ne (ne_of_none q hz)]; exact e.sub b u q, e.len, fun i u hi => ?_, e.out, e.dis⟩
  obtain ⟨v, h1, h2⟩ := e.hold i u hi
  refine ⟨v, h1, h2.keep (.refl _) fun b hb w q => ?_⟩
  have hne : b ≠ a := fun z => hn (by rw [← z]; exact ⟨i, u, hi, hb⟩)
  rw [upd_ne hne]
  exact q
theorem Stp.upd {Z H Z' H' : Hp} {P R : Addr → Prop} {a : Addr} {o : HO} (st : Stp Z H P Z' H' R) (h : H a = none) : Stp Z H P Z' (L2.upd H' a o) R :=
  ⟨st.zz, fun b u q hn => by rw [upd_ne (ne_of_none q h)]; exact st.ch b u q hn, fun b q z => by
    by_cases e : b = a
    · subst e; exact q h
    · rw [upd_ne e] at z; exact st.al b q z, st.zn, st.ow⟩
/-- the names that are a comprehension's -/
theorem blk_own {s : Sc} : ∀ {is : List Nat} {es : List Expr}, mTgs s is es = true → ((es.filterMap fun | .Name x _ => some x | _ => none).zip is).map (·.2) = is
  | [], [], _ => rfl
  | [], _ :: _, h => by cases h
  | i :: is, e :: es, h => by
    cases e with
    | Name x p =>
      unfold mTgs at h
      rw [Bool.and_eq_true] at h
      have ih := blk_own h.2
      show ((x :: es.filterMap _).zip (i :: is)).map (·.2) = i :: is
      rw [List.zip_cons_cons, List.map_cons, ih]
    | _ => cases h
  | _ :: _, [], h => by cases h
theorem own_slots {s : Sc} {tg : Tg} {e : Expr} (h : mTg s tg e = true) : ((tgNames e).zip tg.slots).map (·.2) = tg.slots := by
  unfold mTg at h
  split at h
  · rfl
  · exact blk_own h
  · cases h
/-- the block of a comprehension -/
theorem Gd.blk (g : Gd M T G CL C n X s) {scope : Scope} {s0 : Shared} {H : Hp} {Cd : Addr} {cl : List (Str × Addr)} {fp : List Addr} : Gd M T G CL C n (X.blk s0 H scope (compEnvC scope cl Cd X.env) fp) (blkSc s scope) where
  k := g.k
  calm := g.calm
  N := g.N
  nd := g.nd
  sc := by show relS scope X.env.scope = relS scope s.sc; rw [g.sc]
  fn := fun x h => h
  room := g.room
  xe := rfl
  glb := g.glb
  blt := g.blt
  fns := g.fns
  psl := g.psl
  clm := g.clm
  cls := g.cls
  fcl := g.fcl
  new := g.new
  fnm := g.fnm
  fnd := g.fnd
  mnm := g.mnm
  nc := g.nc
/-- a comprehension -/
theorem comp_ok (g : Gd M T G CL C n X s) {tg : Tg} {k : ItK} {es cs : List E} {a : E} {tgt iter elt : Expr} {ifs : List Expr} {scope : Scope} {pos : Pos} (hi : PI X tgt iter (tI M G CL C k es)) (hns : notSet iter = true)
    (hblk : blkC s.N s.sc scope ((tgNames tgt).zip tg.slots) = true) (htg : mTg (blkSc s scope) tg tgt = true)
    (hc : ∀ (s0 : Shared) (H : Hp) (Cd : Addr) (cl : List (Str × Addr)) (fp : List Addr), PTs (X.blk s0 H scope (compEnvC scope cl Cd X.env) fp) ifs (fun σ H Q => ∃ Z ρ φ b ρ', EOk M Z H σ ρ φ ∧ evC G CL C cs ρ = some (b, ρ') ∧ ∀ Z' H' φ', Stp Z H (Own ρ φ) Z' H' (Own ρ' φ') → EOk M Z' H' σ ρ' φ' → Q b H'))
    (he : ∀ (s0 : Shared) (H : Hp) (Cd : Addr) (cl : List (Str × Addr)) (fp : List Addr), PE (X.blk s0 H scope (compEnvC scope cl Cd X.env) fp) elt (tM M (ev G CL C a false))) :
    ∃ wi gg tt te vs, (∀ σ H Q, tM M (ev G CL C (.comp tg k es cs a) false) σ H Q → tLc wi gg tt te vs σ H Q) ∧ vs = ((tgNames tgt).zip tg.slots).map (·.2) ∧ PI X tgt iter wi ∧ BlkOk X.N X.env.scope scope ((tgNames tgt).zip tg.slots) ∧
      (∀ (s0 : Shared) (H : Hp) (Cd : Addr) (cl : List (Str × Addr)) (fp : List Addr), PG (X.blk s0 H scope (compEnvC scope cl Cd X.env) fp) tgt gg) ∧
      (∀ (s0 : Shared) (H : Hp) (Cd : Addr) (cl : List (Str × Addr)) (fp : List Addr), PTs (X.blk s0 H scope (compEnvC scope cl Cd X.env) fp) ifs tt) ∧
      (∀ (s0 : Shared) (H : Hp) (Cd : Addr) (cl : List (Str × Addr)) (fp : List Addr), PE (X.blk s0 H scope (compEnvC scope cl Cd X.env) fp) elt te) ∧ ∀ x, foldedSetIterable iter X.env x = pure x := by
  refine ⟨_, gT M.K tg, _, _, tg.slots, fun σ H Q hq => ?_, ?_, hi, ?_, fun s0 H Cd cl fp => g_ok g.blk htg, hc, he, fun x => ?_⟩
  · obtain ⟨Z, ρ, φ, o, ρ', e, h, q⟩ := hq
    unfold ev at h
    cases h1 : evV G CL C es ρ with
    | none => rw [h1] at h; cases h
    | some p1 =>
    obtain ⟨ds, ρ1⟩ := p1
    rw [h1] at h
    simp only at h
    cases h2 : iterD k ds with
    | none => rw [h2] at h; cases h
    | some xs =>
    rw [h2] at h
    simp only at h
    cases h3 : plainS ρ1 tg.slots with
    | false => rw [h3] at h; cases h
    | true =>
    rw [h3] at h
    simp only at h
    refine ⟨Z, ρ, φ, ds, ρ1, xs, e, h1, h2, fun J Z1 H1 φ1 st1 e1 hJ D0 hD => ?_⟩
    generalize hstep : (fun x ρ2 => match bindT tg x ρ2 with
            | none => none
            | some ρ3 => match evC G CL C cs ρ3 with
              | none => none
              | some (false, ρ4) => some (none, wipeS ρ4 tg.slots)
              | some (true, ρ4) => match ev G CL C a false ρ4 with
                | none => none
                | some (o, ρ5) => some (some o.frz, wipeS ρ5 tg.slots)) = step at h
    cases h4 : compGo step xs (wipeS ρ1 tg.slots) with
    | none => rw [h4] at h; cases h
    | some p4 =>
    obtain ⟨dsf, ρ6⟩ := p4
    rw [h4] at h
    simp only at h
    obtain ⟨hsz, h⟩ := ite_some h
    cases h
    -- the slots of its own are plain
    have hpl : ∀ i o, i ∈ tg.slots → getS ρ1 i = some o → ∃ d, o = .val d := fun i o hi ho => by
      have := List.all_eq_true.mp h3 i hi
      rw [ho] at this
      cases o with
      | val d => exact ⟨d, rfl⟩
      | _ => cases this
    refine ⟨fun i m H2 => m = xs.length - i ∧ i ≤ xs.length ∧ ∃ Z2 ρ2 φ2 acc accd rest, EOk M Z2 H2 (L2.wipe σ tg.slots) ρ2 φ2 ∧ (∀ i ∈ tg.slots, getS ρ2 i = none) ∧ H2 D0 = some (.lst acc) ∧ RpA M Z2 accd acc ∧ Z2 D0 = none ∧ ¬ Own ρ2 φ2 D0 ∧
      Stp Z1 H1 (Own ρ1 φ1) Z2 H2 (fun a => Own ρ2 φ2 a ∨ a = D0) ∧ compGo step (xs.drop i) ρ2 = some (rest, ρ6) ∧ dsf = accd ++ rest, ⟨xs.length, by simp, Nat.zero_le _, ?_⟩, ?_⟩
    · -- the start
      have zD : Z1 D0 = none := e1.sub.none hD
      have x : Ext Z1 H1 Z1 (upd H1 D0 (.lst [])) [D0] := ⟨.refl _, fun a o q => by rw [upd_ne (ne_of_none (e1.sub a o q) hD)]; exact e1.sub a o q, fun a o q => by rw [upd_ne (ne_of_none q hD)]; exact q, fun _ q => .inl q, fun a ha => by simp at ha; subst ha; exact ⟨hD, zD⟩⟩
      refine ⟨Z1, wipeS ρ1 tg.slots, φ1, [], [], dsf, (e1.ext x).wipe _, fun i hi => ?_, upd_same, rfl, zD, fun z => ?_, ?_, by rw [List.drop_zero]; exact h4, rfl⟩
      · cases q : getS (wipeS ρ1 tg.slots) i with
        | none => rfl
        | some o => exact absurd hi (wipeS_some q).2
      · obtain ⟨u, hu⟩ := (own_wipe z).alloc e1
        rw [hD] at hu; cases hu
      · exact x.stp.less fun a z => z.elim (fun z => .inl (own_wipe z)) fun z => .inr (by simp [z])
    · rintro i m H2 ⟨rfl, hi', Z2, ρ2, φ2, acc, accd, rest, e2, hn2, hD2, ra, zD, nD, st2, hgo, hds⟩
      have z12 : Sub Z1 Z2 := st2.zz
      by_cases hlt : i < xs.length
      · -- a turn
        refine .inr ⟨hJ.go i H2 (z12.trans e2.sub) hlt, fun H3 => i + 1 ≤ xs.length ∧ ∃ Z3 ρ3 φ3 acc accd rest, EOk M Z3 H3 (L2.wipe σ tg.slots) ρ3 φ3 ∧ (∀ i ∈ tg.slots, getS ρ3 i = none) ∧ H3 D0 = some (.lst acc) ∧ RpA M Z3 accd acc ∧ Z3 D0 = none ∧ ¬ Own ρ3 φ3 D0 ∧
          Stp Z1 H1 (Own ρ1 φ1) Z3 H3 (fun a => Own ρ3 φ3 a ∨ a = D0) ∧ compGo step (xs.drop (i + 1)) ρ3 = some (rest, ρ6) ∧ dsf = accd ++ rest, fun H3 q3 => ⟨xs.length - (i + 1), by omega, rfl, q3⟩, fun v H3 hy => ?_⟩
        have hx : xs[i]? = some xs[i] := List.getElem?_eq_getElem hlt
        obtain ⟨Z3, x3, r3⟩ := hJ.yld i H2 v H3 Z2 _ z12 e2.sub hx hy
        have e3 := e2.ext x3
        -- what the run did at this turn
        have hdrop : xs.drop i = xs[i] :: xs.drop (i + 1) := List.drop_eq_getElem_cons hlt
        rw [hdrop] at hgo
        unfold compGo at hgo
        cases h5 : step xs[i] ρ2 with
        | none => rw [h5] at hgo; cases hgo
        | some p5 =>
        obtain ⟨od, ρ7⟩ := p5
        rw [h5] at hgo
        simp only at hgo
        cases h6 : compGo step (xs.drop (i + 1)) ρ7 with
        | none => rw [h6] at hgo; cases hgo
        | some p6 =>
        obtain ⟨rest', ρ8⟩ := p6
        rw [h6] at hgo
        simp only [Option.some.injEq, Prod.mk.injEq] at hgo
        obtain ⟨hrest, rfl⟩ := hgo
        rw [← hstep] at h5
        simp only at h5
        cases h7 : bindT tg xs[i] ρ2 with
        | none => rw [h7] at h5; cases h5
        | some ρ3 =>
        rw [h7] at h5
        simp only at h5
        refine bind_ok h7 e3 r3 fun σ' φ3 hl hs e4 ho hg => ⟨wipe_eq (by rw [hl, wipe_length]) fun j hj => hs j hj, ?_⟩
        have hw : L2.wipe σ' tg.slots = L2.wipe σ tg.slots := wipe_eq (by rw [hl, wipe_length]) fun j hj => hs j hj
        cases h8 : evC G CL C cs ρ3 with
        | none => rw [h8] at h5; cases h5
        | some p8 =>
        obtain ⟨b, ρ4⟩ := p8
        rw [h8] at h5
        refine ⟨Z3, ρ3, φ3, b, ρ4, e4, h8, fun Z4 H4 φ4 st4 e5 => ?_⟩
        -- the list that is made stands
        have hD3 : H3 D0 = some (.lst acc) := x3.hh _ _ hD2
        have zD3 : Z3 D0 = none := by
          cases q : Z3 D0 with
          | none => rfl
          | some u => rcases x3.zn D0 (by rw [q]; exact fun z => nomatch z) with z | z
                      · exact absurd zD z
                      · rw [hD2] at z; cases z
        have nD3 : ¬ Own ρ3 φ3 D0 := fun z => nD (ho _ z)
        have hD4 : H4 D0 = some (.lst acc) := st4.ch _ _ hD3 nD3
        have zD4 : Z4 D0 = none := by
          cases q : Z4 D0 with
          | none => rfl
          | some u => rcases st4.zn D0 (by rw [q]; exact fun z => nomatch z) with z | z | z
                      · exact absurd zD3 z
                      · exact absurd z nD3
                      · rw [hD3] at z; cases z
        have nD4 : ¬ Own ρ4 φ4 D0 := fun z => (st4.ow _ z).elim nD3 fun z => by rw [hD3] at z; cases z
        have st13 : Stp Z1 H1 (Own ρ1 φ1) Z3 H3 (fun a => Own ρ3 φ3 a ∨ a = D0) := by
          refine (st2.trans (x3.stp (P := fun a => Own ρ2 φ2 a ∨ a = D0))).less fun a z => .inl (z.imp_left (ho a))
        have st34 : Stp Z3 H3 (fun a => Own ρ3 φ3 a ∨ a = D0) Z4 H4 (fun a => Own ρ4 φ4 a ∨ a = D0) :=
          ⟨st4.zz, fun a o q hn => st4.ch a o q fun z => hn (.inl z), st4.al, fun a q => (st4.zn a q).imp_right (·.imp_left .inl), fun a z => z.elim (fun z => (st4.ow a z).imp_left .inl) fun z => .inl (.inr z)⟩
        have st14 := st13.trans st34
        cases b with
        | false =>
          simp only [Option.some.injEq, Prod.mk.injEq] at h5
          obtain ⟨rfl, rfl⟩ := h5
          refine iteF ⟨hlt, Z4, wipeS ρ4 tg.slots, φ4, acc, accd, rest', ?_, fun j hj => ?_, hD4, RpA.mono (x3.zz.trans st4.zz) _ _ ra, zD4, fun z => nD4 (own_wipe z), st14.less fun a z => z.imp_left own_wipe, h6, by rw [hds, ← hrest]; rfl⟩
          · have := e5.wipe tg.slots
            rw [hw] at this
            exact this
          · cases q : getS (wipeS ρ4 tg.slots) j with
            | none => rfl
            | some o => exact absurd hj (wipeS_some q).2
        | true =>
          refine iteT ?_
          simp only at h5
          cases h9 : ev G CL C a false ρ4 with
          | none => rw [h9] at h5; cases h5
          | some p9 =>
          obtain ⟨o, ρ5⟩ := p9
          rw [h9] at h5
          simp only [Option.some.injEq, Prod.mk.injEq] at h5
          obtain ⟨rfl, rfl⟩ := h5
          refine ⟨Z4, ρ4, φ4, o, ρ5, e5, h9, fun w Zf H5 φ5 f st5 e6 r6 hf => ?_⟩
          obtain ⟨Z6, st6, e7, rp⟩ := frozen st5 e6 r6 hf
          have hD5 : H5 D0 = some (.lst acc) := st6.ch _ _ hD4 nD4
          have zD6 : Z6 D0 = none := by
            cases q : Z6 D0 with
            | none => rfl
            | some u => rcases st6.zn D0 (by rw [q]; exact fun z => nomatch z) with z | z | z
                        · exact absurd zD4 z
                        · exact absurd z nD4
                        · rw [hD4] at z; cases z
          have nD5 : ¬ Own ρ5 φ5 D0 := fun z => (st6.ow _ z).elim nD4 fun z => by rw [hD4] at z; cases z
          have st46 : Stp Z4 H4 (fun a => Own ρ4 φ4 a ∨ a = D0) Z6 H5 (fun a => Own ρ5 φ5 a ∨ a = D0) :=
            ⟨st6.zz, fun a o q hn => st6.ch a o q fun z => hn (.inl z), st6.al, fun a q => (st6.zn a q).imp_right (·.imp_left .inl), fun a z => z.elim (fun z => (st6.ow a z).imp_left .inl) fun z => .inl (.inr z)⟩
          have hlen : acc.length < sizeLine := by
            rw [ra.length]
            rw [hds, ← hrest] at hsz
            simp at hsz
            omega
          refine ⟨acc, hD5, hlen, hlt, Z6, wipeS ρ5 tg.slots, φ5, acc ++ [w], accd ++ [o.frz], rest', ?_, fun j hj => ?_, upd_same, ?_, zD6, fun z => nD5 (own_wipe z), ((st14.trans st46).upd hD).less fun a z => z.imp_left own_wipe, h6, by rw [hds, ← hrest]; simp⟩
          · have := (e7.upd (o := .lst (acc ++ [w])) zD6 nD5).wipe tg.slots
            rw [hw] at this
            exact this
          · cases q : getS (wipeS ρ5 tg.slots) j with
            | none => rfl
            | some o => exact absurd hj (wipeS_some q).2
          · exact (RpA.mono (x3.zz.trans (st4.zz.trans st6.zz)) _ _ ra).snoc rp
      · -- the end
        have : i = xs.length := by omega
        subst this
        refine .inl ⟨hJ.stop _ H2 (z12.trans e2.sub) (Nat.le_refl _), ?_⟩
        rw [List.drop_length] at hgo
        have hgo : some (([] : List D), ρ2) = some (rest, ρ6) := hgo
        simp only [Option.some.injEq, Prod.mk.injEq] at hgo
        obtain ⟨hr0, hr1⟩ := hgo
        subst hr0
        subst hr1
        rw [List.append_nil] at hds
        subst hds
        -- the slots as they were
        have hb : ∀ i o, getS (backS ρ1 ρ2 tg.slots) i = some o → (i ∈ tg.slots ∧ getS ρ1 i = some o) ∨ (i ∉ tg.slots ∧ getS ρ2 i = some o) := fun i o h => backS_some h
        have eo : EOk M Z2 H2 σ (backS ρ1 ρ2 tg.slots) (fun i => if i ∈ tg.slots then [] else φ2 i) := by
          refine ⟨e2.sub, by rw [backS_length, ← e2.len, wipe_length], fun i o h => ?_, fun a ⟨i, o, h, hm⟩ => ?_, fun i j o u a h1 h2 m1 m2 => ?_⟩
          · rcases hb i o h with ⟨hi, h⟩ | ⟨hi, h⟩
            · obtain ⟨d, rfl⟩ := hpl i o hi h
              obtain ⟨v, h1, h2⟩ := e1.hold i _ h
              exact ⟨v, h1, by simp [hi]; exact ⟨rfl, Rp.mono z12 _ _ h2.2⟩⟩
            · obtain ⟨v, h1, h2⟩ := e2.hold i o h
              rw [wipe_out hi] at h1
              exact ⟨v, h1, by simpa [hi] using h2⟩
          · rcases hb i o h with ⟨hi, h⟩ | ⟨hi, h⟩
            · simp [hi] at hm
            · simp [hi] at hm; exact e2.out a ⟨i, o, h, hm⟩
          · rcases hb i o h1 with ⟨hi, h1⟩ | ⟨hi, h1⟩
            · simp [hi] at m1
            · rcases hb j u h2 with ⟨hj, h2⟩ | ⟨hj, h2⟩
              · simp [hj] at m2
              · simp [hi] at m1; simp [hj] at m2; exact e2.dis i j o u a h1 h2 m1 m2
        have ob : ∀ a, Own (backS ρ1 ρ2 tg.slots) (fun i => if i ∈ tg.slots then [] else φ2 i) a → Own ρ2 φ2 a := fun a ⟨i, o, h, hm⟩ => by
          rcases hb i o h with ⟨hi, h⟩ | ⟨hi, h⟩
          · simp [hi] at hm
          · simp [hi] at hm; exact ⟨i, o, h, hm⟩
        refine q (.ref D0) Z2 H2 _ [D0] ((st1.trans st2).less fun a z => z.elim (fun z => .inl (ob a z)) fun z => .inr (by simpa using z)) eo ⟨D0, acc, rfl, rfl, hD2, ra⟩ fun a ha => ?_
        simp at ha
        subst ha
        exact ⟨zD, fun z => nD (ob _ z)⟩
  · exact (own_slots htg).symm
  · rw [g.N, g.sc]
    exact blkOk_by hblk
  · cases iter <;> first | rfl | cases hns
end
end EV

namespace EV
open PyProof.Rows PySem L2 PySem.Spec
section
variable {M : Mt} {T : Stat} {G : List D} {CL : List (List Nat)} {C : CallF} {n : Nat} {X : Cx} {s : Sc}
/-- behind a test's value -/
theorem tt_mono {m : Env → Option (O × Env)} {σ : L2.St} {H : Hp} {Q Q' : Bool → Hp → Prop} (h : tT M m σ H Q) (w : ∀ v H, Q v H → Q' v H) : tT M m σ H Q' := by
  obtain ⟨Z, ρ, φ, o, ρ', e, hm, q⟩ := h
  exact ⟨Z, ρ, φ, o, ρ', e, hm, fun Z' H' φ' st e' => w _ H' (q Z' H' φ' st e')⟩
/-- a comparison as a test -/
theorem op_test (g : Gd M T G CL C n X s) {p : Pr} {es : List E} {x y : Expr} {op : CmpOp} {pos : Pos} (h : cmpOf p = some op) (hb : behindInMarks op y = false) (hx : PEs X [x, y] (es.map (rdO M G CL C))) :
    PT X (.Compare x [op] [y] pos) (tT M (ev G CL C (.op p es) true)) := by
  obtain ⟨a, b, rfl, ha, hb'⟩ := hx.es2
  obtain ⟨r, ho, srv⟩ := cmp_ok g.k g.hu p _ h
  refine PT.weak (pt_cmpR ho ha hb' hb) fun σ H Q ⟨Z, ρ, φ, b1, ρ', e, hm, q⟩ => ?_
  unfold ev at hm
  cases h1 : evO G CL C [a, b] ρ with
  | none => rw [h1] at hm; cases hm
  | some w =>
    obtain ⟨ds, ρ1⟩ := w
    rw [h1] at hm
    simp only at hm
    match ds, evO_len h1, h1, hm with
    | [d1, d2], _, h1, hm =>
      cases h2 : prim p [d1, d2] with
      | none => rw [h2] at hm; cases hm
      | some o =>
        rw [h2] at hm
        simp only at hm
        obtain ⟨b2, t, hb2, rfl⟩ := post_true hm
        cases hb2
        obtain ⟨b3, rfl⟩ := cmp_bl h h2
        have t : some b3 = some b1 := t
        cases t
        exact ops_ok (K := fun vs H2 => match vs with | [x, y] => r x y H2 (fun x H' => ∃ k, x = .bl k ∧ Q k H') | _ => False) [a, b] e h1 fun vs Z1 H1 φ1 st e1 ra => by
          obtain ⟨v, vs, rfl, r1, w, ws, rfl, r2, rfl⟩ := ra
          refine srv Z1 H1 v w d1 d2 _ _ e1.sub r1 r2 h2 fun v Z' H' f x rr => ?_
          obtain ⟨rfl, rv⟩ := rr
          exact ⟨_, rv, q Z' H' φ1 ((st.trans x.stp).less fun a z => .inl z) (e1.ext x)⟩
theorem op_pt (g : Gd M T G CL C n X s) {p : Pr} {es : List E} {e : Expr} {xs : List Expr} (h : opShape T s p es e = some xs) (hx : PEs X xs (es.map (rdO M G CL C))) : PT X e (tT M (ev G CL C (.op p es) true)) := by
  have post : okTruth e = true → PT X e (tT M (ev G CL C (.op p es) true)) := fun ht => pt_of g.k (op_all g h hx) ht fun ρ w hw => by
    unfold ev at hw ⊢
    cases h1 : evO G CL C es ρ with
    | none => rw [h1] at hw; cases hw
    | some w =>
      obtain ⟨ds, ρ1⟩ := w
      rw [h1] at hw
      simp only at hw
      cases h2 : prim p ds with
      | none => rw [h2] at hw; cases hw
      | some o => rw [h2] at hw; exact ⟨o, ρ1, by simp only [h2]; rfl, hw⟩
  have h0 := h
  unfold opShape at h
  split at h
  · exact post rfl
  · exact post rfl
  · obtain ⟨⟨h1, h2⟩, h⟩ := ite_some h
    cases h
    exact op_test g h1 h2 hx
  · exact post rfl
  · exact post rfl
  · exact post rfl
  · exact post rfl
  · cases h
/-- a run whose test is its value's truth -/
def Plain (G : List D) (CL : List (List Nat)) (C : CallF) (e : E) : Prop := ∀ ρ p, ev G CL C e true ρ = some p → ∃ o ρ', ev G CL C e false ρ = some (o, ρ') ∧ post true o ρ' = some p
theorem both (hK : X.K = M.K) {ir : E} {e : Expr} (h : PE X e (tM M (ev G CL C ir false))) (ht : okTruth e = true) (p : Plain G CL C ir) : PE X e (tM M (ev G CL C ir false)) ∧ PT X e (tT M (ev G CL C ir true)) := ⟨h, pt_of hK h ht p⟩
/-! ### methods of texts -/
theorem mop1 {p : Pr} {o b : E} {σ : L2.St} {H : Hp} {Z : Hp} {ρ ρ' : Env} {φ : Nat → List Addr} {r : O} {K : V → V → Hp → Prop} (e : EOk M Z H σ ρ φ) (h : ev G CL C (.mop p o [b]) false ρ = some (r, ρ')) (hs : ∀ d, rcv p d = true → ∃ a, d = .str a)
    (k : ∀ v w a d Z' H' φ', Stp Z H (Own ρ φ) Z' H' (Own ρ' φ') → EOk M Z' H' σ ρ' φ' → v = .str a → RpW M Z' H' d w → prim p [.str a, d] = some r → K v w H') :
    rdO M G CL C o σ H fun v H1 => (∃ a, v = .str a) ∧ rdO M G CL C b σ H1 fun w H2 => K v w H2 := by
  by_cases hb : ∃ i, o = .bw i
  · obtain ⟨i, rfl⟩ := hb
    unfold ev at h
    simp only at h
    cases q0 : getS ρ i with
    | none => rw [q0] at h; cases h
    | some o0 =>
    rw [q0] at h
    simp only at h
    cases q1 : rcv p o0.frz with
    | false => rw [q1] at h; cases h
    | true =>
    rw [q1] at h
    simp only at h
    cases q2 : evO G CL C [b] ρ with
    | none => rw [q2] at h; cases h
    | some w =>
    obtain ⟨ds, ρ1⟩ := w
    rw [q2] at h
    simp only at h
    cases q3 : getS ρ1 i with
    | none => rw [q3] at h; cases h
    | some o1 =>
    rw [q3] at h
    simp only at h
    match ds, evO_len q2, q2, h with
    | [d], _, q2, h =>
    cases q4 : prim p [o1.frz, d] with
    | none => rw [q4] at h; cases h
    | some r' =>
    rw [q4] at h
    simp only [post, Option.some.injEq, Prod.mk.injEq] at h
    obtain ⟨rfl, rfl⟩ := h
    obtain ⟨v, hv, r0⟩ := e.hold i o0 q0
    obtain ⟨a, ha⟩ := hs _ q1
    have hva : v = .str a := RpW.str (M := M) (Z := Z) (H := H) ⟨o0, _, r0, ha⟩
    refine ⟨v, hv, ⟨a, hva⟩, ?_⟩
    refine ops_ok (K := fun vs H2 => match vs with | [w] => K v w H2 | _ => False) [b] e q2 fun vs Z1 H1 φ1 st e1 ra => ?_
    obtain ⟨w, ws, rfl, r1, rfl⟩ := ra
    -- the receiver is the same text still
    obtain ⟨v', hv', r1'⟩ := e1.hold i o1 q3
    rw [hv] at hv'
    cases hv'
    have hd : o1.frz = .str a := by
      subst hva
      cases o1 with
      | val x =>
        obtain ⟨_, r⟩ := r1'
        cases x with
        | str b => cases (show V.str a = V.str b from r); rfl
        | tup _ => obtain ⟨_, _, e, _⟩ := r; exact absurd e (by simp)
        | lst _ => obtain ⟨_, _, e, _⟩ := r; exact absurd e (by simp)
        | dctK _ => obtain ⟨_, _, e, _⟩ := r; exact absurd e (by simp)
        | dctT _ => obtain ⟨_, _, e, _⟩ := r; exact absurd e (by simp)
        | ins _ _ => obtain ⟨_, _, _, e, _⟩ := r; exact absurd e (by simp)
        | non => exact absurd (show V.str a = V.non from r) (by simp)
        | bl _ => exact absurd (show V.str a = V.bl _ from r) (by simp)
        | int _ => exact absurd (show V.str a = V.int _ from r) (by simp)
      | lst _ => obtain ⟨b, _, e, _⟩ := r1'; cases e
      | dctK _ => obtain ⟨b, _, e, _⟩ := r1'; cases e
      | dctT _ => obtain ⟨b, _, e, _⟩ := r1'; cases e
    rw [hd] at q4
    exact k v w a d Z1 H1 φ1 st e1 hva r1 q4
  · have hd : rdO M G CL C o = tM M (ev G CL C o false) := by
      cases o <;> first | rfl | exact absurd ⟨_, rfl⟩ hb
    have h' : (match ev G CL C o false ρ with
        | none => none
        | some (o0, ρ1) => match rcv p o0.frz with
          | false => none
          | true => match evO G CL C [b] ρ1 with
            | none => none
            | some (ds, ρ') => match prim p (o0.frz :: ds) with
              | none => none
              | some r => post false r ρ') = some (r, ρ') := by
      unfold ev at h
      cases o <;> first | exact h | exact absurd ⟨_, rfl⟩ hb
    cases q0 : ev G CL C o false ρ with
    | none => rw [q0] at h'; cases h'
    | some w0 =>
    obtain ⟨o0, ρ1⟩ := w0
    rw [q0] at h'
    simp only at h'
    cases q1 : rcv p o0.frz with
    | false => rw [q1] at h'; cases h'
    | true =>
    rw [q1] at h'
    simp only at h'
    cases q2 : evO G CL C [b] ρ1 with
    | none => rw [q2] at h'; cases h'
    | some w =>
    obtain ⟨ds, ρ2⟩ := w
    rw [q2] at h'
    simp only at h'
    match ds, evO_len q2, q2, h' with
    | [d], _, q2, h' =>
    cases q4 : prim p [o0.frz, d] with
    | none => rw [q4] at h'; cases h'
    | some r' =>
    rw [q4] at h'
    simp only [post, Option.some.injEq, Prod.mk.injEq] at h'
    obtain ⟨rfl, rfl⟩ := h'
    obtain ⟨a, ha⟩ := hs _ q1
    rw [hd]
    refine ⟨Z, ρ, φ, o0, ρ1, e, q0, fun v Z1 H1 φ1 f st e1 rr hf => ?_⟩
    obtain ⟨Z2, st2, e2, rp⟩ := frozen st e1 rr hf
    rw [ha] at rp
    refine ⟨⟨a, rp⟩, ?_⟩
    refine ops_ok (K := fun vs H2 => match vs with | [w] => K v w H2 | _ => False) [b] e2 q2 fun vs Z3 H3 φ3 st3 e3 ra => ?_
    obtain ⟨w, ws, rfl, r1, rfl⟩ := ra
    rw [ha] at q4
    exact k v w a d Z3 H3 φ3 (st2.trans st3) e3 rp r1 q4
theorem str1_some {x : D} {f : Str → Option O} {o : O} (h : str1 x f = some o) : ∃ s, x = .str s ∧ f s = some o := by
  cases x <;> first | exact ⟨_, rfl, h⟩ | cases h
theorem mop_ok (g : Gd M T G CL C n X s) {p : Pr} {o : E} {es : List E} {e x : Expr} {xs : List Expr} (h : mopShape p e = some (x, xs)) (ho : PE X x (rdO M G CL C o)) (hx : PEs X xs (es.map (rdO M G CL C))) : PE X e (tM M (ev G CL C (.mop p o es) false)) := by
  unfold mopShape at h
  split at h
  · obtain ⟨⟨h1, h2, h3, h4⟩, hh⟩ := ite_some h
    cases hh
    obtain ⟨b, rfl, hb⟩ := hx.es1
    cases p <;> simp only [meOf, reduceCtorEq, Option.some.injEq] at h1
    case join =>
      subst h1
      refine PE.weak (pe_join ho hb (starEach_of h4) (base_ok h2) h3) fun σ H Q ⟨Z, ρ, φ, r, ρ', e, hm, q⟩ => ?_
      refine mop1 e hm (fun d hd => by cases d <;> first | exact ⟨_, rfl⟩ | cases hd) fun v w a d Z' H' φ' st e' hv rw' hp => ?_
      have hp1 : ((seqOf d).bind fun xs => (allStr xs).bind fun ys => if (ys.map (·.length)).sum + ys.length * a.length ≤ 16777216 then some (O.val (.str (Txt.join a ys))) else none) = some r := hp
      obtain ⟨ds, e2, hp2⟩ := Option.bind_eq_some_iff.mp hp1
      obtain ⟨ys, e3, hp3⟩ := Option.bind_eq_some_iff.mp hp2
      obtain ⟨hl, hp4⟩ := ite_some hp3
      cases hp4
      obtain ⟨b, vs, rfl, r1, r2⟩ := rw'.seq e'.sub e2
      rw [r2.strs e3] at r1
      rw [g.k]
      exact ⟨a, b, ys, hv, rfl, r1, hl, (q.cont st e').val e'.sub rfl⟩
    case split =>
      subst h1
      refine PE.weak (pe_split ho hb (starEach_of h4) (base_ok h2) h3) fun σ H Q ⟨Z, ρ, φ, r, ρ', e, hm, q⟩ => ?_
      refine mop1 e hm (fun d hd => by cases d <;> first | exact ⟨_, rfl⟩ | cases hd) fun v w a d Z' H' φ' st e' hv rw' hp => ?_
      have hp1 : (str1 d fun b => if (b.length == 0) = false ∧ a.length + 2 ≤ sizeLine then some (O.lst ((Txt.split a b).map .str)) else none) = some r := hp
      obtain ⟨b', e2, hp2⟩ := str1_some hp1
      subst e2
      obtain ⟨hl, hp3⟩ := ite_some hp2
      cases hp3
      exact ⟨a, b', hv, by rw [rw'.str], hl.1, hl.2, fun p hp => new_lst e'.sub (q.cont st e') (.ofStrs _) hp⟩
  · cases h

/-! ### the whole -/
theorem plain_of {ir : E} (h : ∀ ρ, ev G CL C ir true ρ = match ev G CL C ir false ρ with | none => none | some (o, ρ') => post true o ρ') : Plain G CL C ir := fun ρ p hp => by
  rw [h] at hp
  cases q : ev G CL C ir false ρ with
  | none => rw [q] at hp; cases hp
  | some w => obtain ⟨o, ρ'⟩ := w; rw [q] at hp; exact ⟨o, ρ', rfl, hp⟩
theorem chain_ok (g : Gd M T G CL C n X s) {p q : Pr} {a b c : E} {o1 o2 : CmpOp} (h1 : cmpOf p = some o1) (h2 : cmpOf q = some o2) {r r' : R2} (sp : Srv M p r) (sq : Srv M q r') {σ : L2.St} {H : Hp} {Z : Hp} {ρ ρ' : Env} {φ : Nat → List Addr} {b0 : Bool} {K : VK} {m : Bool}
    (e : EOk M Z H σ ρ φ) (hm : ev G CL C (.cmp2 p q a b c) m ρ = some (.val (.bl b0), ρ')) (k : ∀ Z' H' φ', Stp Z H (Own ρ φ) Z' H' (Own ρ' φ') → EOk M Z' H' σ ρ' φ' → K (.bl b0) H') :
    tChain r r' (rdV M G CL C a) (rdV M G CL C b) (rdV M G CL C c) σ H K := by
  unfold ev at hm
  cases q1 : ev G CL C a false ρ with
  | none => rw [q1] at hm; cases hm
  | some w1 =>
  obtain ⟨x, ρ1⟩ := w1
  rw [q1] at hm
  simp only at hm
  cases q2 : ev G CL C b false ρ1 with
  | none => rw [q2] at hm; cases hm
  | some w2 =>
  obtain ⟨y, ρ2⟩ := w2
  rw [q2] at hm
  simp only at hm
  refine ⟨Z, ρ, φ, x, ρ1, e, q1, fun v Z1 H1 φ1 f st1 e1 r1 hf1 => ?_⟩
  obtain ⟨Z2, st2, e2, rp2⟩ := frozen st1 e1 r1 hf1
  refine ⟨Z2, ρ1, φ1, y, ρ2, e2, q2, fun w Z3 H3 φ3 f3 st3 e3 r3 hf3 => ?_⟩
  obtain ⟨Z4, st4, e4, rp4⟩ := frozen st3 e3 r3 hf3
  cases q3 : prim p [x.frz, y.frz] with
  | none => rw [q3] at hm; cases hm
  | some o =>
  obtain ⟨k1, rfl⟩ := cmp_bl h1 q3
  rw [q3] at hm
  refine sp Z4 H3 v w _ _ _ _ e4.sub (.of (Rp.mono st4.zz _ _ rp2)) (.of rp4) q3 fun u Z5 H5 f5 x5 r5 => ?_
  obtain ⟨rfl, r5⟩ := r5
  refine ⟨k1, r5, ?_⟩
  have st5 := (st2.trans st4).trans x5.stp
  have e5 := e4.ext x5
  cases k1 with
  | false =>
    simp only [Option.some.injEq, Prod.mk.injEq, O.val.injEq, D.bl.injEq] at hm
    obtain ⟨rfl, rfl⟩ := hm
    exact iteF (k Z5 H5 φ3 (st5.less fun a z => .inl z) e5)
  | true =>
    simp only at hm
    refine iteT ?_
    cases q4 : ev G CL C c false ρ2 with
    | none => rw [q4] at hm; cases hm
    | some w4 =>
    obtain ⟨z, ρ3⟩ := w4
    rw [q4] at hm
    simp only at hm
    refine ⟨Z5, ρ2, φ3, z, ρ3, e5, q4, fun w' Z6 H6 φ6 f6 st6 e6 r6 hf6 => ?_⟩
    obtain ⟨Z7, st7, e7, rp7⟩ := frozen st6 e6 r6 hf6
    cases q5 : prim q [y.frz, z.frz] with
    | none => rw [q5] at hm; cases hm
    | some o' =>
    obtain ⟨k2, rfl⟩ := cmp_bl h2 q5
    rw [q5] at hm
    simp only [Option.some.injEq, Prod.mk.injEq, O.val.injEq, D.bl.injEq] at hm
    obtain ⟨rfl, rfl⟩ := hm
    refine sq Z7 H6 w w' _ _ _ _ e7.sub (.of (Rp.mono (x5.zz.trans st7.zz) _ _ rp4)) (.of rp7) q5 fun u' Z8 H8 f8 x8 r8 => ?_
    obtain ⟨rfl, r8⟩ := r8
    have r8 : u' = V.bl k2 := r8
    subst r8
    exact k Z8 H8 φ6 (((st5.less fun a z => .inl z).trans st7).trans x8.stp |>.less fun a z => .inl z) (e7.ext x8)
end
end EV

namespace EV
open PyProof.Rows PySem L2 PySem.Spec
section
variable {M : Mt} {T : Stat} {G : List D} {CL : List (List Nat)} {C : CallF} {n : Nat} {X : Cx} {s : Sc}
theorem PEs.nil_iff {xs : List Expr} (h : PEs X xs []) : xs = [] := by cases xs with | nil => rfl | cons _ _ => exact h.elim
theorem tup_ok {es : List E} {xs : List Expr} {k : Nat} {pos : Pos} (h : PEs X xs (es.map (rdV M G CL C))) (hs : xs.all notStar = true) : PE X (.Tuple xs k pos) (tM M (ev G CL C (.tup es) false)) := by
  refine PE.weak (pe_tup (pa_of h hs)) fun σ H Q ⟨Z, ρ, φ, o, ρ', e, hm, q⟩ => ?_
  unfold ev at hm
  cases q1 : evV G CL C es ρ with
  | none => rw [q1] at hm; cases hm
  | some w =>
    obtain ⟨ds, ρ1⟩ := w
    rw [q1] at hm
    obtain ⟨hz, hm⟩ := ite_some hm
    cases hm
    exact vals_ok es e q1 fun vs Z1 H1 φ1 st e1 ra => ⟨by rw [ra.length]; exact hz, fun p hp => new_tup e1.sub (q.cont st e1) ra hp⟩
theorem lst_ok {es : List E} {xs : List Expr} {pos : Pos} (h : PEs X xs (es.map (rdV M G CL C))) (hs : xs.all notStar = true) : PE X (.List xs pos) (tM M (ev G CL C (.lst es) false)) := by
  refine PE.weak (pe_lst (pa_of h hs)) fun σ H Q ⟨Z, ρ, φ, o, ρ', e, hm, q⟩ => ?_
  unfold ev at hm
  cases q1 : evV G CL C es ρ with
  | none => rw [q1] at hm; cases hm
  | some w =>
    obtain ⟨ds, ρ1⟩ := w
    rw [q1] at hm
    obtain ⟨hz, hm⟩ := ite_some hm
    cases hm
    exact vals_ok es e q1 fun vs Z1 H1 φ1 st e1 ra => ⟨by rw [ra.length]; exact hz, fun p hp => new_lst e1.sub (q.cont st e1) ra hp⟩
/-- a value run, then what comes of it -/
theorem rd_then {a : E} {σ : L2.St} {H Z : Hp} {ρ ρ' : Env} {φ : Nat → List Addr} {o : O} {K : VK} (e : EOk M Z H σ ρ φ) (h : ev G CL C a false ρ = some (o, ρ'))
    (k : ∀ v Z' H' φ', Stp Z H (Own ρ φ) Z' H' (Own ρ' φ') → EOk M Z' H' σ ρ' φ' → Rp M Z' o.frz v → K v H') : tM M (ev G CL C a false) σ H K :=
  ⟨Z, ρ, φ, o, ρ', e, h, fun v Z1 H1 φ1 f st e1 r hf => by
    obtain ⟨Z2, st2, e2, rp⟩ := frozen st e1 r hf
    exact k v Z2 H1 φ1 st2 e2 rp⟩
theorem Rp.bl {Z : Hp} {b : Bool} {v : V} (h : Rp M Z (.bl b) v) : v = .bl b := h
theorem and_ok {a b : E} {x y : Expr} {r : List Expr} {pos : Pos} (ha : PE X x (tM M (ev G CL C a false))) (hb : PE X (match r with | [] => y | _ => .BoolOp .And (y :: r) pos) (tM M (ev G CL C b false))) :
    PE X (.BoolOp .And (x :: y :: r) pos) (tM M (ev G CL C (.and a b) false)) := by
  have hb' : PE X (.BoolOp .And (y :: r) pos) (tM M (ev G CL C b false)) := by
    cases r with
    | nil => exact pe_one hb
    | cons _ _ => exact hb
  refine PE.weak (pe_and ha hb') fun σ H Q ⟨Z, ρ, φ, o, ρ', e, hm, q⟩ => ?_
  unfold ev at hm
  cases q1 : ev G CL C a false ρ with
  | none => rw [q1] at hm; cases hm
  | some w =>
    obtain ⟨o1, ρ1⟩ := w
    rw [q1] at hm
    simp only at hm
    refine rd_then e q1 fun v Z1 H1 φ1 st e1 rp => ?_
    split at hm
    · rename_i h1
      rw [h1] at rp
      exact ⟨true, rp, iteT ⟨Z1, ρ1, φ1, o, ρ', e1, hm, q.then st⟩⟩
    · rename_i h1
      rw [h1] at rp
      cases hm
      exact ⟨false, rp, iteF ((q.cont st e1).val e1.sub rfl)⟩
    · cases hm
theorem or_ok {a b : E} {x y : Expr} {r : List Expr} {pos : Pos} (ha : PE X x (tM M (ev G CL C a false))) (hb : PE X (match r with | [] => y | _ => .BoolOp .Or (y :: r) pos) (tM M (ev G CL C b false))) :
    PE X (.BoolOp .Or (x :: y :: r) pos) (tM M (ev G CL C (.or a b) false)) := by
  have hb' : PE X (.BoolOp .Or (y :: r) pos) (tM M (ev G CL C b false)) := by
    cases r with
    | nil => exact pe_one hb
    | cons _ _ => exact hb
  refine PE.weak (pe_or ha hb') fun σ H Q ⟨Z, ρ, φ, o, ρ', e, hm, q⟩ => ?_
  unfold ev at hm
  cases q1 : ev G CL C a false ρ with
  | none => rw [q1] at hm; cases hm
  | some w =>
    obtain ⟨o1, ρ1⟩ := w
    rw [q1] at hm
    simp only at hm
    refine rd_then e q1 fun v Z1 H1 φ1 st e1 rp => ?_
    split at hm
    · rename_i h1
      rw [h1] at rp
      cases hm
      exact ⟨true, rp, iteT ((q.cont st e1).val e1.sub rfl)⟩
    · rename_i h1
      rw [h1] at rp
      exact ⟨false, rp, iteF ⟨Z1, ρ1, φ1, o, ρ', e1, hm, q.then st⟩⟩
    · cases hm
/-- a test's run tells a truth -/
theorem post_bl {o r : O} {ρ ρ' : Env} (h : post true o ρ = some (r, ρ')) : ∃ b, r = .val (.bl b) := let ⟨b, _, h, _⟩ := post_true h; ⟨b, h⟩
theorem tst_bl : ∀ (a : E) {ρ ρ' : Env} {o : O}, ev G CL C a true ρ = some (o, ρ') → ∃ b, o = .val (.bl b)
  | .fail, _, _, _, h => by cases h
  | .lit d, _, _, _, h => post_bl h
  | .rf _, _, _, _, h => by cases h
  | .dct0 t, _, _, _, h => post_bl h
  | .and a b, ρ, ρ', o, h => by
    unfold ev at h
    split at h
    · cases h
    · split at h
      · exact tst_bl b h
      · cases h; exact ⟨_, rfl⟩
      · cases h
  | .or a b, ρ, ρ', o, h => by
    unfold ev at h
    split at h
    · cases h
    · split at h
      · cases h; exact ⟨_, rfl⟩
      · exact tst_bl b h
      · cases h
  | .not a, ρ, ρ', o, h => by
    unfold ev at h
    split at h
    · cases h
    · split at h
      · cases h; exact ⟨_, rfl⟩
      · cases h
  | .ite c a b, ρ, ρ', o, h => by
    unfold ev at h
    cases h
  | .cmp2 p q a b c, ρ, ρ', o, h => by
    unfold ev at h
    repeat' split at h
    all_goals first | (cases h; done) | (cases h; exact ⟨_, rfl⟩)
  | .var i, ρ, ρ', o, h => by
    unfold ev at h
    repeat' split at h
    all_goals first | exact post_bl h | cases h
  | .mv i, ρ, ρ', o, h => by
    unfold ev at h
    repeat' split at h
    all_goals first | exact post_bl h | cases h
  | .sh i, ρ, ρ', o, h => by
    unfold ev at h
    repeat' split at h
    all_goals first | exact post_bl h | cases h
  | .bw i, ρ, ρ', o, h => by
    unfold ev at h
    simp only at h
    repeat' split at h
    all_goals first | exact post_bl h | cases h
  | .glob g, ρ, ρ', o, h => by
    unfold ev at h
    repeat' split at h
    all_goals first | exact post_bl h | cases h
  | .op p es, ρ, ρ', o, h => by
    unfold ev at h
    repeat' split at h
    all_goals first | exact post_bl h | cases h
  | .mop p a es, ρ, ρ', o, h => by
    unfold ev at h
    repeat' split at h
    all_goals first | exact post_bl h | cases h
  | .tup es, ρ, ρ', o, h => by
    unfold ev at h
    repeat' split at h
    all_goals first | exact post_bl h | cases h
  | .lst es, ρ, ρ', o, h => by
    unfold ev at h
    repeat' split at h
    all_goals first | exact post_bl h | cases h
  | .call f es, ρ, ρ', o, h => by
    unfold ev at h
    repeat' split at h
    all_goals first | exact post_bl h | cases h
  | .meth f a es, ρ, ρ', o, h => by
    unfold ev at h
    repeat' split at h
    all_goals first | exact post_bl h | cases h
  | .new c es, ρ, ρ', o, h => by
    unfold ev at h
    repeat' split at h
    all_goals first | exact post_bl h | (cases h; done) | (rename_i hh; exact absurd hh.1 (by decide))
  | .pop i, ρ, ρ', o, h => by
    unfold ev at h
    repeat' split at h
    all_goals first | exact post_bl h | cases h
  | .popAt i e, ρ, ρ', o, h => by
    unfold ev at h
    repeat' split at h
    all_goals first | exact post_bl h | cases h
  | .comp tg k es cs e, ρ, ρ', o, h => by
    unfold ev at h
    repeat' split at h
    all_goals first | exact post_bl h | cases h
  | .frz e, ρ, ρ', o, h => by
    unfold ev at h
    repeat' split at h
    all_goals first | exact post_bl h | cases h
theorem tt_then {a : E} {σ : L2.St} {H Z : Hp} {ρ ρ' : Env} {φ : Nat → List Addr} {b : Bool} {K : Bool → Hp → Prop} (e : EOk M Z H σ ρ φ) (h : ev G CL C a true ρ = some (.val (.bl b), ρ'))
    (k : ∀ Z' H' φ', Stp Z H (Own ρ φ) Z' H' (Own ρ' φ') → EOk M Z' H' σ ρ' φ' → K b H') : tT M (ev G CL C a true) σ H K := ⟨Z, ρ, φ, b, ρ', e, h, k⟩
theorem tand_ok {a b : E} {x y : Expr} {r : List Expr} {pos : Pos} (ha : PT X x (tT M (ev G CL C a true))) (hb : PW X (.BoolOp .And (y :: r) pos) (tT M (ev G CL C b true))) :
    PW X (.BoolOp .And (x :: y :: r) pos) (tT M (ev G CL C (.and a b) true)) := by
  refine ⟨fun whole pins s σ H Q I ⟨Z, ρ, φ, o, ρ', e, hm, q⟩ => (pw_and ha hb).run whole pins s σ H Q I ?_⟩
  unfold ev at hm
  cases q1 : ev G CL C a true ρ with
  | none => rw [q1] at hm; cases hm
  | some w =>
    obtain ⟨o1, ρ1⟩ := w
    obtain ⟨b1, rfl⟩ := tst_bl a q1
    rw [q1] at hm
    refine tt_then e q1 fun Z1 H1 φ1 st e1 => ?_
    cases b1 with
    | true =>
      have hm : ev G CL C b true ρ1 = some (.val (.bl o), ρ') := hm
      exact iteT (tt_then e1 hm fun Z2 H2 φ2 st2 e2 => q Z2 H2 φ2 (st.trans st2) e2)
    | false =>
      have hm : some (O.val (.bl false), ρ1) = some (.val (.bl o), ρ') := hm
      cases hm
      exact iteF (q Z1 H1 φ1 st e1)
theorem tor_ok {a b : E} {x y : Expr} {r : List Expr} {pos : Pos} (ha : PT X x (tT M (ev G CL C a true))) (hb : PW X (.BoolOp .Or (y :: r) pos) (tT M (ev G CL C b true))) :
    PW X (.BoolOp .Or (x :: y :: r) pos) (tT M (ev G CL C (.or a b) true)) := by
  refine ⟨fun whole pins s σ H Q I ⟨Z, ρ, φ, o, ρ', e, hm, q⟩ => (pw_or ha hb).run whole pins s σ H Q I ?_⟩
  unfold ev at hm
  cases q1 : ev G CL C a true ρ with
  | none => rw [q1] at hm; cases hm
  | some w =>
    obtain ⟨o1, ρ1⟩ := w
    obtain ⟨b1, rfl⟩ := tst_bl a q1
    rw [q1] at hm
    refine tt_then e q1 fun Z1 H1 φ1 st e1 => ?_
    cases b1 with
    | true =>
      have hm : some (O.val (.bl true), ρ1) = some (.val (.bl o), ρ') := hm
      cases hm
      exact iteT (q Z1 H1 φ1 st e1)
    | false =>
      have hm : ev G CL C b true ρ1 = some (.val (.bl o), ρ') := hm
      exact iteF (tt_then e1 hm fun Z2 H2 φ2 st2 e2 => q Z2 H2 φ2 (st.trans st2) e2)
theorem not_ok {a : E} {x : Expr} {pos : Pos} (ha : PE X x (tM M (ev G CL C a false))) : PE X (.UnaryOp .Not x pos) (tM M (ev G CL C (.not a) false)) := by
  refine PE.weak (pe_not ha) fun σ H Q ⟨Z, ρ, φ, o, ρ', e, hm, q⟩ => ?_
  unfold ev at hm
  cases q1 : ev G CL C a false ρ with
  | none => rw [q1] at hm; cases hm
  | some w =>
    obtain ⟨o1, ρ1⟩ := w
    rw [q1] at hm
    simp only at hm
    refine rd_then e q1 fun v Z1 H1 φ1 st e1 rp => ?_
    split at hm
    · rename_i b h1
      rw [h1] at rp
      cases hm
      exact ⟨b, rp, (q.cont st e1).val e1.sub rfl⟩
    · cases hm
theorem tnot_ok {a : E} {x : Expr} {pos : Pos} (ha : PT X x (tT M (ev G CL C a true))) : PT X (.UnaryOp .Not x pos) (tT M (ev G CL C (.not a) true)) := by
  refine PT.weak (pt_not ha) fun σ H Q ⟨Z, ρ, φ, o, ρ', e, hm, q⟩ => ?_
  unfold ev at hm
  cases q1 : ev G CL C a true ρ with
  | none => rw [q1] at hm; cases hm
  | some w =>
    obtain ⟨o1, ρ1⟩ := w
    obtain ⟨b1, rfl⟩ := tst_bl a q1
    rw [q1] at hm
    have hm : some (O.val (.bl !b1), ρ1) = some (.val (.bl o), ρ') := hm
    cases hm
    exact tt_then e q1 fun Z1 H1 φ1 st e1 => q Z1 H1 φ1 st e1
theorem ite_ok {c a b : E} {x y z : Expr} {pos : Pos} (hc : PT X x (tT M (ev G CL C c true))) (ha : PE X y (tM M (ev G CL C a false))) (hb : PE X z (tM M (ev G CL C b false))) : PE X (.IfExp x y z pos) (tM M (ev G CL C (.ite c a b) false)) := by
  refine PE.weak (pe_ifExp hc ha hb) fun σ H Q ⟨Z, ρ, φ, o, ρ', e, hm, q⟩ => ?_
  unfold ev at hm
  simp only at hm
  cases q1 : ev G CL C c true ρ with
  | none => rw [q1] at hm; cases hm
  | some w =>
    obtain ⟨o1, ρ1⟩ := w
    obtain ⟨b1, rfl⟩ := tst_bl c q1
    rw [q1] at hm
    refine tt_then e q1 fun Z1 H1 φ1 st e1 => ?_
    cases b1 with
    | true =>
      have hm : ev G CL C a false ρ1 = some (o, ρ') := hm
      exact iteT ⟨Z1, ρ1, φ1, o, ρ', e1, hm, q.then st⟩
    | false =>
      have hm : ev G CL C b false ρ1 = some (o, ρ') := hm
      exact iteF ⟨Z1, ρ1, φ1, o, ρ', e1, hm, q.then st⟩
end
end EV

namespace EV
open PyProof.Rows PySem L2 PySem.Spec
section
variable {M : Mt} {T : Stat} {G : List D} {CL : List (List Nat)} {C : CallF} {n : Nat} {X : Cx} {s : Sc}
theorem stars_all {env : PySem.Env} {pos : Pos} : ∀ {xs : List Expr}, xs.all notStar = true → (backTo pos (starEach xs env)).all (fun x => !x.1) = true
  | [], _ => rfl
  | x :: xs, h => by
    rw [List.all_cons, Bool.and_eq_true] at h
    rw [starEach_of h.1]
    show (true && (backTo pos (starEach xs env)).all (fun x => !x.1)) = true
    rw [stars_all h.2]
    rfl
theorem meth_eq {o : Expr} {m : Str} {apos pos : Pos} {env : PySem.Env} {es : List Expr} (hb : okBase o = true) (hs : es.all notStar = true) (hn : es.length < 29) (hl : (apos.endLine == pos.line) = true) :
    eval (.Call (.Attribute o m apos) es [] pos) env = (do
      let ov ← eval o env
      standAt apos.atName
      let (f, first) ← holding [ov] (getMethod ov m (do return (← importBound o env).getD true))
      callWith pos f first (backTo pos (starEach es env)) (backToKw pos (keywordEach [] env))) := by
  show (do
    let ov ← attributeBase o m env (eval o env)
    standAt apos.atName
    methodCall o m apos pos env ov (es.length + 0) (backTo pos (starEach es env)) (backToKw pos (keywordEach [] env))) = _
  rw [base_ok hb]
  have hf : methodCallForm (es.length + 0) (backTo pos (starEach es env)) (backToKw pos (keywordEach [] env)) = true := by
    unfold methodCallForm
    rw [stars_all hs]
    show (true && decide (es.length + 0 + 0 < 30)) = true
    simp
    omega
  congr
  funext ov
  congr
  funext _
  unfold methodCall
  rw [hf]
  have hp : methodCallPos true o env apos pos = pure pos := by
    unfold methodCallPos
    rw [hl]
    rfl
  rw [hp]
  rfl
theorem nil_app {vs : List V} : vs ++ ([] : List V) = vs := List.append_nil vs
theorem call_pe (g : Gd M T G CL C n X s) {f : Nat} {F : FnS} {es : List E} {xs : List Expr} {x : Str} {p pos : Pos} (hF : T.fns[f]? = some F) (hm : F.meth = false) (hx : F.nm = x) (hg : gl s x = true) (hs : xs.all notStar = true) (hr : refsOk es F.refs = true) (h : PEs X xs (es.map (rdA M G CL C))) :
    PE X (.Call (.Name x p) xs [] pos) (tM M (ev G CL C (.call f es) false)) := by
  subst hx
  obtain ⟨fa, fd, ok, hb, kp, hmg, _⟩ := g.fns f F hF
  obtain ⟨g1, g2, g3⟩ := g.gl hg
  have run : ∀ σ H Q, tM M (ev G CL C (.call f es) false) σ H Q → nest (es.map (rdA M G CL C)) σ H fun vs H1 => spF M C f F.refs (vs ++ []) H1 Q E0 := by
    rintro σ H Q ⟨Z, ρ, φ, o, ρ', e, hm, q⟩
    unfold ev at hm
    cases q1 : evA G CL C es ρ with
    | none => rw [q1] at hm; cases hm
    | some w1 =>
    obtain ⟨ds, ρ1⟩ := w1
    rw [q1] at hm
    simp only at hm
    cases q2 : takeA es ds ρ1 with
    | none => rw [q2] at hm; cases hm
    | some w2 =>
    obtain ⟨os, ρ2⟩ := w2
    rw [q2] at hm
    simp only at hm
    cases q3 : C f os with
    | none => rw [q3] at hm; cases hm
    | some w3 =>
    obtain ⟨r, ps⟩ := w3
    rw [q3] at hm
    simp only [post, Option.some.injEq, Prod.mk.injEq] at hm
    obtain ⟨rfl, rfl⟩ := hm
    have := call_ok (E := E0) e q1 q2 q3 hr (g.psl f F os r ps hF q3) q
    simpa only [List.append_nil] using this
  cases xs with
  | nil =>
    have he : es = [] := by
      cases es with
      | nil => rfl
      | cons _ _ => exact h.elim
    subst he
    exact PE.weak (pe_call0 ok g.room g1 (hmg hm) kp hb .nil pass0 g2) run
  | cons x xs =>
    have hs' := hs
    rw [List.all_cons, Bool.and_eq_true] at hs'
    exact PE.weak (pe_call ok g.room g1 (hmg hm) kp hb .nil pass0 (pa_of h hs) g2 (starEach_of hs'.1) (stars_none hs'.2)) run
theorem meth_pe (g : Gd M T G CL C n X s) {f : Nat} {F : FnS} {o : E} {es : List E} {y : Expr} {xs : List Expr} {apos pos : Pos} {r : List Bool} (hF : T.fns[f]? = some F) (hm : F.meth = true) (hb : okBase y = true) (hl : (apos.endLine == pos.line) = true) (hn : xs.length < 29) (hs : xs.all notStar = true)
    (hrf : F.refs = false :: r) (hr : refsOk es r = true) (ho : PE X y (tM M (ev G CL C o false))) (h : PEs X xs (es.map (rdA M G CL C))) :
    PE X (.Call (.Attribute y F.nm apos) xs [] pos) (tM M (ev G CL C (.meth f o es) false)) := by
  obtain ⟨fa, fd, ok, hbd, kp, _, hme⟩ := g.fns f F hF
  obtain ⟨x, hcx⟩ := g.fcl f F hF hm
  obtain ⟨cl, _⟩ := g.cls F.cls x hcx
  have run : ∀ σ H Q, tM M (ev G CL C (.meth f o es) false) σ H Q → tMeth (M.cl F.cls) F.nm (spF M C f F.refs) [] E0 (tM M (ev G CL C o false)) (nest (es.map (rdA M G CL C))) σ H Q := by
    rintro σ H Q ⟨Z, ρ, φ, r0, ρ', e, hmm, q⟩
    unfold ev at hmm
    cases q0 : ev G CL C o false ρ with
    | none => rw [q0] at hmm; cases hmm
    | some w0 =>
    obtain ⟨o0, ρ0⟩ := w0
    rw [q0] at hmm
    match o0, q0, hmm with
    | .val (.ins c fs), q0, hmm =>
      simp only at hmm
      cases q1 : evA G CL C es ρ0 with
      | none => rw [q1] at hmm; cases hmm
      | some w1 =>
      obtain ⟨ds, ρ1⟩ := w1
      rw [q1] at hmm
      simp only at hmm
      cases q2 : takeA es ds ρ1 with
      | none => rw [q2] at hmm; cases hmm
      | some w2 =>
      obtain ⟨os, ρ2⟩ := w2
      rw [q2] at hmm
      simp only at hmm
      cases q3 : C f (.val (.ins c fs) :: os) with
      | none => rw [q3] at hmm; cases hmm
      | some w3 =>
      obtain ⟨r1, ps⟩ := w3
      rw [q3] at hmm
      simp only [post, Option.some.injEq, Prod.mk.injEq] at hmm
      obtain ⟨rfl, rfl⟩ := hmm
      have hc := g.clm f F c fs os _ _ hF hm q3
      subst hc
      have hpl := g.psl f F _ _ _ hF q3
      refine rd_then e q0 fun v Z1 H1 φ1 st1 e1 rp => ?_
      have rp' := rp
      obtain ⟨a, dx, vs0, rfl, i1, i2, i3⟩ := rp
      refine ⟨a, dx, vs0, rfl, e1.sub _ _ i1, RpF.no g (g.mnm f F hF hm) i3, ?_⟩
      -- the receiver ahead of the arguments
      have := callH_ok (E := E0) e1 rp' q1 q2 q3 hr (by rw [hpl, hrf]; rfl) (q.then st1)
      rw [hrf]
      simpa only [List.append_nil] using this
  cases xs with
  | nil =>
    have he : es = [] := by
      cases es with
      | nil => rfl
      | cons _ _ => exact h.elim
    subst he
    exact PE.weak (pe_meth0 ho cl.cls (hme hm) ok g.room hbd .nil pass0 (meth_eq hb hs hn hl)) run
  | cons x xs =>
    have hs' := hs
    rw [List.all_cons, Bool.and_eq_true] at hs'
    exact PE.weak (pe_meth ho cl.cls (hme hm) ok g.room hbd .nil pass0 (pa_of h hs) (starEach_of hs'.1) (stars_none hs'.2) (meth_eq hb hs hn hl)) run
theorem newF : ∀ {ns : List Nat} {ds : List D} {vs : List V} {Z : Hp}, ns.length = ds.length → RpA M Z ds vs → RpF M Z (ns.zip ds) ((ns.map M.fn).zip vs)
  | [], [], _, _, _, h => by cases h; rfl
  | [], _ :: _, _, _, h, _ => by cases h
  | _ :: _, [], _, _, h, _ => by cases h
  | k :: ns, d :: ds, _, _, hl, h => by
    obtain ⟨v, vs, rfl, h1, h2⟩ := h
    exact ⟨v, _, rfl, h1, newF (by simpa using hl) h2⟩
theorem new_pe (g : Gd M T G CL C n X s) {c : Nat} {es : List E} {y : Expr} {xs : List Expr} {x : Str} {p pos : Pos} (hc : T.cnm[c]? = some x) (hg : gl s x = true) (hs : (y :: xs).all notStar = true) (h : PEs X (y :: xs) (es.map (rdV M G CL C))) :
    PE X (.Call (.Name x p) (y :: xs) [] pos) (tM M (ev G CL C (.new c es) false)) := by
  cases hcl : CL[c]? with
  | none =>
    refine pe_never fun ρ q hq => ?_
    unfold ev at hq
    split at hq
    · cases hq
    · rw [hcl] at hq; cases hq
  | some ns =>
  obtain ⟨fi, fd, ps, j, hn, mk, hb, ok⟩ := g.new c x ns hc hcl
  obtain ⟨cl, hmg⟩ := g.cls c x hc
  obtain ⟨g1, g2, g3⟩ := g.gl hg
  have hs' := hs
  rw [List.all_cons, Bool.and_eq_true] at hs'
  refine PE.weak (pe_make mk ok (hn ▸ g.room) g1 hmg hb .nil pass0 (pa_of h hs) g2 (starEach_of hs'.1) (stars_none hs'.2)) fun σ H Q ⟨Z, ρ, φ, o, ρ', e, hm, q⟩ => ?_
  unfold ev at hm
  cases q1 : evV G CL C es ρ with
  | none => rw [q1] at hm; cases hm
  | some w =>
  obtain ⟨ds, ρ1⟩ := w
  rw [q1] at hm
  simp only [hcl] at hm
  obtain ⟨⟨_, hlen⟩, hm⟩ := ite_some hm
  cases hm
  refine vals_ok es e q1 fun vs Z1 H1 φ1 st e1 ra => fun a dx ha hdx hne => ?_
  refine ⟨a, dx, vs, by simp, by rw [ra.length, hlen], upd_same, rfl, ?_⟩
  have za := e1.sub.none ha
  have s1 : Sub Z1 (upd Z1 a (.ins (M.cl c) dx ((ns.map M.fn).zip vs))) := fun b o q => by rw [upd_ne (ne_of_none q za)]; exact q
  refine (q.cont st e1) (.ref a) (upd Z1 a (.ins (M.cl c) dx ((ns.map M.fn).zip vs))) _ [] ⟨s1, fun b o q => ?_, fun b o q => ?_, fun b q => ?_, fun b hb => by cases hb⟩ ⟨rfl, a, dx, _, rfl, upd_same, by rw [g.nc]; exact (List.getElem?_eq_some_iff.mp hc).1, newF hlen (RpA.mono s1 _ _ ra)⟩
  · by_cases e : b = a
    · subst e; rw [upd_same] at q ⊢; exact q
    · rw [upd_ne e] at q ⊢
      have q2 := e1.sub b o q
      rw [upd_ne e, upd_ne (ne_of_none q2 hdx)]
      exact q2
  · rw [upd_ne (ne_of_none q ha), upd_ne (ne_of_none q ha), upd_ne (ne_of_none q hdx)]
    exact q
  · by_cases e : b = a
    · subst e; exact .inr ha
    · rw [upd_ne e] at q; exact .inl q
/-- a thing in a slot is written -/
theorem slot_write {Z H : Hp} {σ : L2.St} {ρ : Env} {φ : Nat → List Addr} {i : Nat} {o o' : O} {l : Addr} {ho : HO} (e : EOk M Z H σ ρ φ) (hi : getS ρ i = some o) (hl : φ i = [l]) (r : ∀ H' : Hp, H' l = some ho → RpO M Z H' o' (.ref l) [l]) (hv : σ[i]? = some (some (.ref l))) :
    EOk M Z (upd H l ho) σ (setS ρ i (some o')) φ ∧ Stp Z H (Own ρ φ) Z (upd H l ho) (Own (setS ρ i (some o')) φ) := by
  have own : Own ρ φ l := ⟨i, o, hi, by rw [hl]; simp⟩
  have zl := e.out l own
  have ow : ∀ a, Own (setS ρ i (some o')) φ a → Own ρ φ a := fun a ⟨j, u, hj, hm⟩ => by
    rcases getS_set_some hj with ⟨rfl, _⟩ | ⟨ne, hj⟩
    · exact ⟨_, o, hi, hm⟩
    · exact ⟨j, u, hj, hm⟩
  refine ⟨⟨fun b u q => by rw [upd_ne (ne_of_none q zl)]; exact e.sub b u q, by rw [setS_length]; exact e.len, fun j u hj => ?_, fun a ha => e.out a (ow a ha), fun j k u w a hj hk mj mk => ?_⟩, ⟨.refl _, fun a u q hn => by rw [upd_ne (show a ≠ l from fun z => hn (by rw [z]; exact own))]; exact q, fun a q z => ?_, fun _ q => .inl q, fun a ha => .inl (ow a ha)⟩⟩
  · rcases getS_set_some hj with ⟨rfl, z⟩ | ⟨ne, hj⟩
    · cases z
      exact ⟨_, hv, by rw [hl]; exact r _ upd_same⟩
    · obtain ⟨v, h1, h2⟩ := e.hold j u hj
      refine ⟨v, h1, h2.keep (.refl _) fun b hb w q => ?_⟩
      have : b ≠ l := fun z => ne (e.dis j i u o b hj hi hb (by rw [hl, z]; simp))
      rw [upd_ne this]
      exact q
  · have back : ∀ j u, getS (setS ρ i (some o')) j = some u → ∃ u', getS ρ j = some u' := fun j u hj => by
      rcases getS_set_some hj with ⟨rfl, _⟩ | ⟨_, hj⟩
      · exact ⟨_, hi⟩
      · exact ⟨_, hj⟩
    obtain ⟨u', hj'⟩ := back j u hj
    obtain ⟨w', hk'⟩ := back k w hk
    exact e.dis j k u' w' a hj' hk' mj mk
  · by_cases e : a = l
    · subst e; rw [upd_same] at z; cases z
    · rw [upd_ne e] at z; exact q z
theorem pop_pe (g : Gd M T G CL C n X s) {i : Nat} {x : Str} {p apos pos : Pos} (hv : vis s i x = true) (hl : (apos.endLine == pos.line) = true) : PE X (.Call (.Attribute (.Name x p) "pop" apos) [] [] pos) (tM M (ev G CL C (.pop i) false)) := by
  refine PE.weak (pe_bm0 PySem.F.plainAttrs_list PySem.F.slot_list_pop PySem.F.type_list_pop mt_pop (g.vis hv) rfl hl) fun σ H Q ⟨Z, ρ, φ, o, ρ', e, hm, q⟩ => ?_
  unfold ev at hm
  split at hm
  · rename_i xs hi
    split at hm
    · rename_i d hd
      simp only [post, Option.some.injEq, Prod.mk.injEq] at hm
      obtain ⟨rfl, rfl⟩ := hm
      obtain ⟨v, h1, h2⟩ := e.hold i _ hi
      obtain ⟨a, vs, rfl, h3, h4, h5⟩ := h2
      obtain ⟨y, h6, h7⟩ := h5.get (i := xs.length - 1) (by rw [← List.getLast?_eq_getElem?]; exact hd)
      obtain ⟨e1, st⟩ := slot_write (o' := .lst xs.dropLast) (ho := .lst vs.dropLast) e hi h3 (fun H' hH => ⟨a, _, rfl, rfl, hH, h5.dropLast⟩) h1
      refine ⟨.ref a, h1, Or.inl ⟨rfl, vs, .inl (.inl h4)⟩, a, vs, y, rfl, rfl, h4, by rw [h5.length]; exact h6, ?_⟩
      exact (q.cont st e1).val e1.sub h7
    · cases hm
  · cases hm
theorem popAt_pe (g : Gd M T G CL C n X s) {i : Nat} {a : E} {x : Str} {y : Expr} {p apos pos : Pos} (hv : vis s i x = true) (hl : (apos.endLine == pos.line) = true) (hy : notStar y = true) (ha : PE X y (tM M (ev G CL C a false))) :
    PE X (.Call (.Attribute (.Name x p) "pop" apos) [y] [] pos) (tM M (ev G CL C (.popAt i a) false)) := by
  have hst := starEach_of (xs := []) (env := X.env) hy
  refine PE.weak (pe_bm PySem.F.plainAttrs_list PySem.F.slot_list_pop PySem.F.type_list_pop mt_popAt (g.vis hv) (pa_cons ha pa_nil hst) rfl (by rw [hst]; rfl) hl hst rfl) fun σ H Q ⟨Z, ρ, φ, o, ρ', e, hm, q⟩ => ?_
  unfold ev at hm
  split at hm
  · rename_i xs0 hi0
    cases q1 : ev G CL C a false ρ with
    | none => rw [q1] at hm; cases hm
    | some w =>
    obtain ⟨o1, ρ1⟩ := w
    rw [q1] at hm
    simp only at hm
    split at hm
    · rename_i k xs hk hi
      split at hm
      · rename_i j hj
        split at hm
        · rename_i d hd
          obtain ⟨hb, hm⟩ := ite_some hm
          simp only [post, Option.some.injEq, Prod.mk.injEq] at hm
          obtain ⟨rfl, rfl⟩ := hm
          obtain ⟨v, h1, h2⟩ := e.hold i _ hi0
          obtain ⟨b, vs0, rfl, h3, h4, h5⟩ := h2
          refine ⟨.ref b, h1, Or.inl ⟨rfl, vs0, .inl (.inl h4)⟩, ?_⟩
          refine rd_then e q1 fun w Z1 H1 φ1 st1 e1 rp => ?_
          rw [hk] at rp
          obtain ⟨v', g1, g2⟩ := e1.hold i _ hi
          rw [h1] at g1
          cases g1
          obtain ⟨b', vs, eb, f3, f4, f5⟩ := g2
          cases eb
          obtain ⟨y, h6, h7⟩ := f5.get hd
          obtain ⟨e2, st2⟩ := slot_write (o' := .lst (xs.eraseIdx j)) (ho := .lst (vs.eraseIdx j)) e1 hi f3 (fun H' hH => ⟨b, _, rfl, rfl, hH, f5.eraseIdx j⟩) h1
          rw [← f5.length] at hj
          have rp : w = V.int k := rp
          subst rp
          refine ⟨b, vs, k, j, y, rfl, rfl, f4, hb.1, hb.2, (ixN_seq hj).1, h6, ?_⟩
          exact (q.cont (st1.trans st2) e2).val e2.sub h7
        · cases hm
      · cases hm
    · cases hm
  · cases hm
end
end EV

namespace EV
open PyProof.Rows PySem L2 PySem.Spec
section
variable {M : Mt} {T : Stat} {G : List D} {CL : List (List Nat)} {C : CallF} {n : Nat}
theorem setS_setS : ∀ (ρ : Env) (i : Nat) (o u : Option O), setS (setS ρ i o) i u = setS ρ i u
  | [], _, _, _ => rfl
  | _ :: _, 0, _, _ => rfl
  | x :: r, i + 1, o, u => by simp [setS, setS_setS r i o u]
theorem dct_pe {X : Cx} {t : Bool} {pos : Pos} : PE X (.Dict [] [] pos) (tM M (ev G CL C (.dct0 t) false)) := by
  cases t with
  | true => exact PE.weak pe_dnewT fun σ H Q ⟨Z, ρ, φ, o, ρ', e, hm, q⟩ p hp => by cases hm; exact new_dT e.sub (q.cont .refl e) rfl hp
  | false => exact PE.weak pe_dnewK fun σ H Q ⟨Z, ρ, φ, o, ρ', e, hm, q⟩ p hp => by cases hm; exact new_dK e.sub (q.cont .refl e) rfl hp
theorem lit_pe {X : Cx} {d : D} {c : Const} {j : Nat} {pos : Pos} (h : mLit d c = true) : PE X (.Constant c j pos) (tM M (ev G CL C (.lit d) false)) := by
  unfold mLit at h
  split at h
  · exact pe_val (d := .non) pe_non (fun _ => rfl) fun ρ p hp => by cases hp; rfl
  · simp only [beq_iff_eq] at h; subst h; exact pe_val (d := .bl _) pe_bl (fun _ => rfl) fun ρ p hp => by cases hp; rfl
  · simp only [decide_eq_true_eq] at h; subst h; exact pe_val (d := .int _) pe_int (fun _ => rfl) fun ρ p hp => by cases hp; rfl
  · simp only [decide_eq_true_eq] at h; subst h; exact pe_val (d := .str _) pe_str (fun _ => rfl) fun ρ p hp => by cases hp; rfl
  · cases h
theorem var_pe {X : Cx} {s : Sc} (g : Gd M T G CL C n X s) {i : Nat} {x : Str} {pos : Pos} (h : vis s i x = true) : PE X (.Name x pos) (tM M (ev G CL C (.var i) false)) := by
  refine PE.weak (g.vis h) fun σ H Q ⟨Z, ρ, φ, o, ρ', e, hm, q⟩ => ?_
  unfold ev at hm
  split at hm
  · rename_i d hd
    cases hm
    obtain ⟨v, h1, h2⟩ := e.hold i _ hd
    exact ⟨v, h1, q.here e h2.2⟩
  · cases hm
theorem bw_pe {X : Cx} {s : Sc} (g : Gd M T G CL C n X s) {i : Nat} {x : Str} {pos : Pos} (h : vis s i x = true) : PE X (.Name x pos) (tM M (ev G CL C (.bw i) false)) := by
  refine PE.weak (g.vis h) fun σ H Q ⟨Z, ρ, φ, o, ρ', e, hm, q⟩ => ?_
  unfold ev at hm
  simp only at hm
  split at hm
  · rename_i d hd
    cases hm
    obtain ⟨v, h1, h2⟩ := e.hold i _ hd
    exact ⟨v, h1, q.here e h2.2⟩
  · cases hm
theorem bw_pt {X : Cx} {s : Sc} (g : Gd M T G CL C n X s) {i : Nat} {x : Str} {pos : Pos} (h : vis s i x = true) : PT X (.Name x pos) (tT M (ev G CL C (.bw i) true)) := by
  refine PT.weak (pt_truth (g.vis h) (isTrue_ok rfl)) fun σ H Q ⟨Z, ρ, φ, b, ρ', e, hm, q⟩ => ?_
  unfold ev at hm
  simp only at hm
  split at hm
  · rename_i o ho
    obtain ⟨b', t, hb, rfl⟩ := post_true hm
    cases hb
    obtain ⟨v, h1, h2⟩ := e.hold i o ho
    refine ⟨v, h1, b, ?_, q Z H φ .refl e⟩
    rw [g.k]
    exact truth_ok h2 e.sub t
  · cases hm
theorem mv_pe {X : Cx} {s : Sc} (g : Gd M T G CL C n X s) {i : Nat} {x : Str} {pos : Pos} (h : vis s i x = true) : PE X (.Name x pos) (tM M (ev G CL C (.mv i) false)) := by
  refine PE.weak (g.vis h) fun σ H Q ⟨Z, ρ, φ, o, ρ', e, hm, q⟩ => ?_
  unfold ev at hm
  split at hm
  · rename_i o1 ho
    cases hm
    obtain ⟨v, h1, h2⟩ := e.hold i _ ho
    refine ⟨v, h1, q v Z H φ (φ i) (Stp.refl.less fun a z => z.elim (fun z => z.less set_less) fun z => ⟨i, _, ho, z⟩) (e.less (setS_length _ _ _) set_less) h2 fun a ha => ⟨e.out a ⟨i, _, ho, ha⟩, fun ⟨j, u, hj, hm⟩ => ?_⟩⟩
    rcases getS_set_some hj with ⟨_, z⟩ | ⟨ne, hj⟩
    · cases z
    · exact ne (e.dis j i u _ a hj ho hm ha)
  · cases hm
theorem sh_pe {X : Cx} {s : Sc} (g : Gd M T G CL C n X s) {i : Nat} {x : Str} {pos : Pos} (h : vis s i x = true) : PE X (.Name x pos) (tM M (ev G CL C (.sh i) false)) := by
  refine PE.weak (g.vis h) fun σ H Q ⟨Z, ρ, φ, o, ρ', e, hm, q⟩ => ?_
  unfold ev at hm
  split at hm
  · rename_i o1 ho
    cases hm
    obtain ⟨v, h1, h2⟩ := e.hold i _ ho
    refine ⟨v, h1, ?_⟩
    -- taken, frozen, laid back
    have e0 : EOk M Z H σ (setS ρ i none) φ := e.less (setS_length _ _ _) set_less
    have no : ∀ a ∈ φ i, Z a = none ∧ ¬ Own (setS ρ i none) φ a := fun a ha => ⟨e.out a ⟨i, _, ho, ha⟩, fun ⟨j, u, hj, hm⟩ => by
      rcases getS_set_some hj with ⟨_, z⟩ | ⟨ne, hj⟩
      · cases z
      · exact ne (e.dis j i u _ a hj ho hm ha)⟩
    have st0 : Stp Z H (Own ρ φ) Z H (fun a => Own (setS ρ i none) φ a ∨ a ∈ φ i) := Stp.refl.less fun a z => z.elim (fun z => z.less set_less) fun z => ⟨i, _, ho, z⟩
    obtain ⟨Z2, st2, e2, rp⟩ := frozen st0 e0 h2 no
    have hs : σ.set i (some v) = σ := by
      apply List.ext_getElem?
      intro j
      by_cases ej : i = j
      · subst ej
        rw [List.getElem?_set_self (List.getElem?_eq_some_iff.mp h1).1, h1]
      · rw [List.getElem?_set_ne ej]
    have e3 := e2.setV (i := i) rp
    rw [hs] at e3
    have hset : setS (setS ρ i none) i (some (.val o1.frz)) = setS ρ i (some (.val o1.frz)) := setS_setS ρ i _ _
    rw [hset] at e3
    refine q v Z2 H _ [] ⟨st2.zz, st2.ch, st2.al, st2.zn, fun a z => ?_⟩ e3 ⟨rfl, rp⟩ fun a ha => absurd ha (by simp)
    rcases z with z | z
    · rw [← hset] at z
      rcases z.set with z | z
      · cases z
      · exact st2.ow a z
    · cases z
  · cases hm
theorem glob_pe {X : Cx} {s : Sc} (g : Gd M T G CL C n X s) {k : Nat} {x : Str} {pos : Pos} (h : gl s x = true) (hk : T.glb[k]? = some x) : PE X (.Name x pos) (tM M (ev G CL C (.glob k) false)) := by
  cases hg : G[k]? with
  | none => exact pe_never fun ρ p hp => by unfold ev at hp; rw [hg] at hp; cases hp
  | some d =>
    obtain ⟨u, v, h1, h2, h3⟩ := g.glb k x d hk hg
    obtain ⟨g1, g2, _⟩ := g.gl h
    exact pe_val (pe_glob g1 h1 h2 g2) (fun Z => Rp.mono (fun a o h => by cases h) _ _ h3) fun ρ p hp => by unfold ev at hp; rw [hg] at hp; cases hp; rfl
theorem frz_pe {X : Cx} {a : E} {e : Expr} (h : PE X e (tM M (ev G CL C a false))) : PE X e (tM M (ev G CL C (.frz a) false)) := by
  refine PE.weak h fun σ H Q ⟨Z, ρ, φ, o, ρ', e, hm, q⟩ => ?_
  unfold ev at hm
  cases q1 : ev G CL C a false ρ with
  | none => rw [q1] at hm; cases hm
  | some w =>
    obtain ⟨o1, ρ1⟩ := w
    rw [q1] at hm
    cases hm
    exact rd_then e q1 fun v Z1 H1 φ1 st e1 rp => q v Z1 H1 φ1 [] (st.less fun a z => z.elim id fun z => by cases z) e1 ⟨rfl, rp⟩ fun a ha => absurd ha (by simp)
theorem cmp2_pe {X : Cx} {s : Sc} (g : Gd M T G CL C n X s) {p q : Pr} {a b c : E} {x y z : Expr} {o1 o2 : CmpOp} {pos : Pos} (h1 : cmpOf p = some o1) (h2 : cmpOf q = some o2) (h3 : behindInMarks o2 z = false) (ha : PE X x (tM M (ev G CL C a false))) (hb : PE X y (tM M (ev G CL C b false))) (hc : PE X z (tM M (ev G CL C c false))) :
    PE X (.Compare x [o1, o2] [y, z] pos) (tM M (ev G CL C (.cmp2 p q a b c) false)) ∧ PT X (.Compare x [o1, o2] [y, z] pos) (tT M (ev G CL C (.cmp2 p q a b c) true)) := by
  obtain ⟨r, ho, sp⟩ := cmp_ok g.k g.hu p _ h1
  obtain ⟨r', ho', sq⟩ := cmp_ok g.k g.hu q _ h2
  have bl : ∀ m ρ o ρ', ev G CL C (.cmp2 p q a b c) m ρ = some (o, ρ') → ∃ b0, o = .val (.bl b0) := fun m ρ o ρ' h => by
    unfold ev at h
    repeat' split at h
    all_goals first | (cases h; done) | (cases h; exact ⟨_, rfl⟩)
  refine ⟨PE.weak (pe_chain ho ho' ha hb hc h3) fun σ H Q ⟨Z, ρ, φ, o, ρ', e, hm, q⟩ => ?_, PT.weak (pt_chain ho ho' ha hb hc h3) fun σ H Q ⟨Z, ρ, φ, b0, ρ', e, hm, q⟩ => ?_⟩
  · obtain ⟨b0, rfl⟩ := bl _ _ _ _ hm
    exact chain_ok g h1 h2 sp sq e hm fun Z' H' φ' st e' => (q.cont st e').val e'.sub rfl
  · exact chain_ok g h1 h2 sp sq e hm fun Z' H' φ' st e' => ⟨b0, rfl, q Z' H' φ' st e'⟩
/-- a BoolOp's rest as one -/
theorem pw_of {X : Cx} {op : BoolOp} {y : Expr} {r : List Expr} {pos : Pos} {t : TT} (h : PT X (match r with | [] => y | _ => .BoolOp op (y :: r) pos) t) : PW X (.BoolOp op (y :: r) pos) t := by
  cases r with
  | nil => cases op with
    | And => exact pw_and1 h
    | Or => exact pw_or1 h
  | cons _ _ => exact ⟨fun whole pins s σ H Q I q => h.run pins s σ H Q I q⟩
mutual
theorem sE : ∀ (ir : E) (s : Sc) (X : Cx) (e : Expr), Gd M T G CL C n X s → mE T ir s e = true → PE X e (tM M (ev G CL C ir false)) ∧ PT X e (tT M (ev G CL C ir true))
  | .fail, s, X, e, g, h => ⟨pe_never (fun ρ p hp => by unfold ev at hp; cases hp), pt_never (fun ρ p hp => by unfold ev at hp; cases hp)⟩
  | .lit d, s, X, e, g, h => by
    unfold mE at h
    split at h
    · exact both g.k (lit_pe h) rfl (plain_of fun ρ => rfl)
    · cases h
  | .var i, s, X, e, g, h => by
    unfold mE at h
    split at h
    · refine both g.k (var_pe g h) rfl (plain_of fun ρ => ?_)
      unfold ev
      repeat' split
      all_goals first | rfl | (rename_i h1 h2; rw [h1] at h2; cases h2; done) | simp_all [post]
    · cases h
  | .mv i, s, X, e, g, h => by
    unfold mE at h
    split at h
    · rw [Bool.and_eq_true] at h
      refine both g.k (mv_pe g h.1) rfl (plain_of fun ρ => ?_)
      unfold ev
      split <;> rfl
    · cases h
  | .sh i, s, X, e, g, h => by
    unfold mE at h
    split at h
    · refine both g.k (sh_pe g h) rfl (plain_of fun ρ => ?_)
      unfold ev
      split <;> rfl
    · cases h
  | .bw i, s, X, e, g, h => by
    unfold mE at h
    split at h
    · exact ⟨bw_pe g h, bw_pt g h⟩
    · cases h
  | .rf i, s, X, e, g, h => by cases h
  | .glob k, s, X, e, g, h => by
    unfold mE at h
    split at h
    · rw [Bool.and_eq_true, decide_eq_true_eq] at h
      refine both g.k (glob_pe g h.1 h.2) rfl (plain_of fun ρ => ?_)
      unfold ev
      split <;> rfl
    · cases h
  | .op p es, s, X, e, g, h => by
    unfold mE at h
    split at h
    · rename_i xs hs
      have hx := sO es s X xs g h
      exact ⟨op_all g hs hx, op_pt g hs hx⟩
    · cases h
  | .mop p o es, s, X, e, g, h => by
    unfold mE at h
    split at h
    · rename_i x xs hs
      rw [Bool.and_eq_true] at h
      have ht : okTruth e = true := by
        unfold mopShape at hs
        split at hs
        · rfl
        · cases hs
      have ho : PE X x (rdO M G CL C o) := by
        have := (sE o s X x g h.1).1
        cases o <;> first | exact this | skip
        have h1 := h.1
        unfold mE at h1
        split at h1
        · exact g.vis h1
        · cases h1
      refine both g.k (mop_ok g hs ho (sO es s X xs g h.2)) ht (plain_of fun ρ => ?_)
      unfold ev
      cases o <;> (simp only; repeat' split) <;> first | rfl | (simp_all [post]; done)
    · cases h
  | .tup es, s, X, e, g, h => by
    unfold mE at h
    split at h
    · rw [Bool.and_eq_true] at h
      refine both g.k (tup_ok (sV es s X _ g h.2) h.1) rfl (plain_of fun ρ => ?_)
      unfold ev
      repeat' split
      all_goals first | rfl | simp_all [post]
    · cases h
  | .lst es, s, X, e, g, h => by
    unfold mE at h
    split at h
    · rw [Bool.and_eq_true] at h
      refine both g.k (lst_ok (sV es s X _ g h.2) h.1) rfl (plain_of fun ρ => ?_)
      unfold ev
      repeat' split
      all_goals first | rfl | simp_all [post]
    · cases h
  | .dct0 t, s, X, e, g, h => by
    unfold mE at h
    split at h
    · exact both g.k dct_pe rfl (plain_of fun ρ => rfl)
    · cases h
  | .and a b, s, X, e, g, h => by
    unfold mE at h
    split at h
    · rw [Bool.and_eq_true] at h
      have ha := sE a s X _ g h.1
      have hb := sE b s X _ g h.2
      exact ⟨and_ok ha.1 hb.1, (tand_ok ha.2 (pw_of hb.2)).pt⟩
    · cases h
  | .or a b, s, X, e, g, h => by
    unfold mE at h
    split at h
    · rw [Bool.and_eq_true] at h
      have ha := sE a s X _ g h.1
      have hb := sE b s X _ g h.2
      exact ⟨or_ok ha.1 hb.1, (tor_ok ha.2 (pw_of hb.2)).pt⟩
    · cases h
  | .not a, s, X, e, g, h => by
    unfold mE at h
    split at h
    · have ha := sE a s X _ g h
      exact ⟨not_ok ha.1, tnot_ok ha.2⟩
    · cases h
  | .ite c a b, s, X, e, g, h => by
    unfold mE at h
    split at h
    · rw [Bool.and_eq_true, Bool.and_eq_true] at h
      have hc := sE c s X _ g h.1.1
      have ha := sE a s X _ g h.1.2
      have hb := sE b s X _ g h.2
      exact ⟨ite_ok hc.2 ha.1 hb.1, pt_never fun ρ p hp => by unfold ev at hp; cases hp⟩
    · cases h
  | .cmp2 p q a b c, s, X, e, g, h => by
    unfold mE at h
    split at h
    · simp only [Bool.and_eq_true, decide_eq_true_eq, Bool.not_eq_true'] at h
      obtain ⟨⟨⟨⟨⟨h1, h2⟩, h3⟩, h4⟩, h5⟩, h6⟩ := h
      exact cmp2_pe g h1 h2 h3 (sE a s X _ g h4).1 (sE b s X _ g h5).1 (sE c s X _ g h6).1
    · cases h
  | .call f es, s, X, e, g, h => by
    unfold mE at h
    split at h
    · rename_i x p xs pos F hF
      simp only [Bool.and_eq_true, decide_eq_true_eq, Bool.not_eq_true'] at h
      obtain ⟨⟨⟨⟨⟨h1, h2⟩, h3⟩, h4⟩, h5⟩, h6⟩ := h
      refine both g.k (call_pe g hF h1 h2 h3 h4 h5 (sA es s X xs g h6)) rfl (plain_of fun ρ => ?_)
      unfold ev
      repeat' split
      all_goals first | rfl | simp_all [post]
    · cases h
  | .meth f o es, s, X, e, g, h => by
    unfold mE at h
    split at h
    · rename_i y m apos xs pos F hF
      simp only [Bool.and_eq_true, decide_eq_true_eq] at h
      obtain ⟨⟨⟨⟨⟨⟨⟨⟨h1, h2⟩, h3⟩, h4⟩, h5⟩, h6⟩, h7⟩, h8⟩, h9⟩ := h
      subst h2
      split at h7
      · rename_i r hr
        refine both g.k (meth_pe g hF h1 h3 h4 h5 h6 hr h7 (sE o s X y g h8).1 (sA es s X xs g h9)) rfl (plain_of fun ρ => ?_)
        unfold ev
        repeat' split
        all_goals first | rfl | simp_all [post]
      · cases h7
    · cases h
  | .new c es, s, X, e, g, h => by
    unfold mE at h
    split at h
    · rename_i x p y xs pos
      simp only [Bool.and_eq_true, decide_eq_true_eq] at h
      obtain ⟨⟨⟨h1, h2⟩, h3⟩, h4⟩ := h
      refine ⟨new_pe g h1 h2 (by simpa using h3) (sV es s X (y :: xs) g h4), pt_never fun ρ p hp => ?_⟩
      unfold ev at hp
      repeat' split at hp
      all_goals first | (cases hp; done) | (rename_i hh; exact absurd hh.1 (by decide))
    · cases h
  | .pop i, s, X, e, g, h => by
    unfold mE at h
    split at h
    · simp only [Bool.and_eq_true, decide_eq_true_eq] at h
      obtain ⟨⟨h1, h2⟩, h3⟩ := h
      subst h1
      refine both g.k (pop_pe g h2 h3) rfl (plain_of fun ρ => ?_)
      unfold ev
      repeat' split
      all_goals first | rfl | simp_all [post]
    · cases h
  | .popAt i a, s, X, e, g, h => by
    unfold mE at h
    split at h
    · simp only [Bool.and_eq_true, decide_eq_true_eq] at h
      obtain ⟨⟨⟨⟨h1, h2⟩, h3⟩, h4⟩, h5⟩ := h
      subst h1
      refine both g.k (popAt_pe g h2 h3 h4 (sE a s X _ g h5).1) rfl (plain_of fun ρ => ?_)
      unfold ev
      repeat' split
      all_goals first | rfl | simp_all [post]
    · cases h
  | .comp tg k es cs a, s, X, e, g, h => by
    unfold mE at h
    split at h
    · rename_i elt tgt iter ifs nn scope pos
      simp only [Bool.and_eq_true, decide_eq_true_eq, beq_iff_eq] at h
      obtain ⟨⟨⟨⟨⟨⟨⟨h1, h2⟩, h3⟩, h4⟩, h5⟩, h6⟩, h7⟩, h8⟩ := h
      subst h1
      split at h2
      · rename_i xs hs
        have hi := it_ok g hs (sV es s X xs g h2)
        have hc : ∀ (s0 : Shared) (H : Hp) (Cd : Addr) (cl : List (Str × Addr)) (fp : List Addr), PTs (X.blk s0 H scope (compEnvC scope cl Cd X.env) fp) ifs (fun σ H Q => ∃ Z ρ φ b ρ', EOk M Z H σ ρ φ ∧ evC G CL C cs ρ = some (b, ρ') ∧ ∀ Z' H' φ', Stp Z H (Own ρ φ) Z' H' (Own ρ' φ') → EOk M Z' H' σ ρ' φ' → Q b H') := by
          intro s0 H Cd cl fp
          match cs, h6, h7 with
          | [], _, h7 =>
            have : ifs = [] := by
              unfold mEs at h7
              split at h7 <;> first | rfl | cases h7
            subst this
            refine ⟨fun pins s σ H Q I ⟨Z, ρ, φ, b, ρ', e, hm, q⟩ => pts_nil.run pins s σ H Q I ?_⟩
            cases hm
            exact q Z H φ .refl e
          | [c], _, h7 =>
            match ifs, h7 with
            | [x], h7 =>
              unfold mEs at h7
              rw [Bool.and_eq_true] at h7
              have hp := (sE c (blkSc s scope) _ x (g.blk (s0 := s0) (H := H) (Cd := Cd) (cl := cl) (fp := fp)) h7.1).2
              refine ⟨fun pins s σ H Q I ⟨Z, ρ, φ, b, ρ', e, hm, q⟩ => (pts_one hp).run pins s σ H Q I ⟨Z, ρ, φ, b, ρ', e, ?_, q⟩⟩
              unfold evC at hm
              split at hm
              · rename_i h1
                simp only at hm
                cases hm
                exact h1
              · cases hm
            | [], h7 => cases h7
            | _ :: _ :: _, h7 => simp [mEs] at h7
        obtain ⟨wi, gg, tt, te, vs, w1, rfl, w3, w4, w5, w6, w7, w8⟩ := comp_ok (pos := pos) g hi h3 h4 h5 hc fun s0 H Cd cl fp => (sE a (blkSc s scope) _ elt g.blk h8).1
        refine both g.k (PE.weak (pe_lc g.calm g.nd w3 w4 w5 w6 w7 w8) w1) rfl (plain_of fun ρ => ?_)
        unfold ev
        repeat' split
        all_goals first | rfl | simp_all [post]
      · cases h2
    · cases h
  | .frz a, s, X, e, g, h => by
    unfold mE at h
    rw [Bool.and_eq_true] at h
    refine both g.k (frz_pe (sE a s X e g h.2).1) h.1 (plain_of fun ρ => ?_)
    unfold ev
    repeat' split
    all_goals first | rfl | simp_all [post]
theorem sV : ∀ (es : List E) (s : Sc) (X : Cx) (xs : List Expr), Gd M T G CL C n X s → mEs T es s xs = true → PEs X xs (es.map (rdV M G CL C))
  | [], s, X, xs, g, h => by
    unfold mEs at h
    split at h
    · exact True.intro
    · cases h
  | e :: es, s, X, xs, g, h => by
    unfold mEs at h
    split at h
    · rw [Bool.and_eq_true] at h
      exact ⟨(sE e s X _ g h.1).1, sV es s X _ g h.2⟩
    · cases h
theorem sO : ∀ (es : List E) (s : Sc) (X : Cx) (xs : List Expr), Gd M T G CL C n X s → mEs T es s xs = true → PEs X xs (es.map (rdO M G CL C))
  | [], s, X, xs, g, h => by
    unfold mEs at h
    split at h
    · exact True.intro
    · cases h
  | e :: es, s, X, xs, g, h => by
    unfold mEs at h
    split at h
    · rename_i x xs
      rw [Bool.and_eq_true] at h
      refine ⟨?_, sO es s X _ g h.2⟩
      have := (sE e s X _ g h.1).1
      cases e <;> first | exact this | skip
      have h1 := h.1
      unfold mE at h1
      split at h1
      · exact g.vis h1
      · cases h1
    · cases h
theorem sA : ∀ (es : List E) (s : Sc) (X : Cx) (xs : List Expr), Gd M T G CL C n X s → mAs T es s xs = true → PEs X xs (es.map (rdA M G CL C))
  | [], s, X, xs, g, h => by
    unfold mAs at h
    split at h
    · exact True.intro
    · cases h
  | e :: es, s, X, xs, g, h => by
    unfold mAs at h
    split at h
    · rename_i x xs
      rw [Bool.and_eq_true] at h
      refine ⟨?_, sA es s X _ g h.2⟩
      by_cases hr : ∃ i, e = .rf i
      · obtain ⟨i, rfl⟩ := hr
        have h1 := h.1
        simp only at h1
        split at h1
        · exact g.vis h1
        · cases h1
      · have h1 : mE T e s x = true := by cases e <;> first | exact h.1 | exact absurd ⟨_, rfl⟩ hr
        have := (sE e s X _ g h1).1
        cases e <;> first | exact this | exact absurd ⟨_, rfl⟩ hr
    · cases h
end
end
end EV

namespace EV
open PyProof.Rows PySem L2 PySem.Spec
section
variable {M : Mt} {T : Stat} {G : List D} {CL : List (List Nat)} {C : CallF} {W n : Nat} {X : Cx} {s : Sc}
/-- what a run that goes on wants -/
def Nx (M : Mt) (fx : List Nat) (Z H : Hp) (ρ : Env) (φ : Nat → List Addr) (σ : L2.St) (K : L2.St → Hp → Prop) (ρ' : Env) : Prop :=
  ∀ σ' Z' H' φ', Stp Z H (Own ρ φ) Z' H' (Own ρ' φ') → EOk M Z' H' σ' ρ' φ' → (∀ i, i ∈ fx → σ'[i]? = σ[i]?) → K σ' H'
def Rt (M : Mt) (fx : List Nat) (Z H : Hp) (ρ : Env) (φ : Nat → List Addr) (σ : L2.St) (Q : VK) (o : O) (ρ' : Env) : Prop :=
  ∀ v σ' Z' H' φ' f, Stp Z H (Own ρ φ) Z' H' (fun a => Own ρ' φ' a ∨ a ∈ f) → EOk M Z' H' σ' ρ' φ' → RpO M Z' H' o v f → (∀ a ∈ f, Z' a = none ∧ ¬ Own ρ' φ' a) → (∀ i, i ∈ fx → σ'[i]? = σ[i]?) → Q v H'
def Dn (M : Mt) (fx : List Nat) (Z H : Hp) (ρ : Env) (φ : Nat → List Addr) (σ : L2.St) (D : Ends) : Flow → Env → Prop
  | .nx, ρ' => Nx M fx Z H ρ φ σ D.nx ρ'
  | .bk, ρ' => Nx M fx Z H ρ φ σ D.bk ρ'
  | .ct, ρ' => Nx M fx Z H ρ φ σ D.ct ρ'
  | .rt o, ρ' => Rt M fx Z H ρ φ σ D.rt o ρ'
def tS (M : Mt) (fx : List Nat) (m : Env → Option (Flow × Env)) : TS := fun D σ H => ∃ Z ρ φ fl ρ', EOk M Z H σ ρ φ ∧ m ρ = some (fl, ρ') ∧ Dn M fx Z H ρ φ σ D fl ρ'
section
variable {fx : List Nat} {Z H Z1 H1 : Hp} {ρ ρ1 ρ' : Env} {φ φ1 : Nat → List Addr} {σ σ1 : L2.St}
theorem Nx.then {K : L2.St → Hp → Prop} (st : Stp Z H (Own ρ φ) Z1 H1 (Own ρ1 φ1)) (hf : ∀ i, i ∈ fx → σ1[i]? = σ[i]?) (h : Nx M fx Z H ρ φ σ K ρ') : Nx M fx Z1 H1 ρ1 φ1 σ1 K ρ' :=
  fun σ' Z' H' φ' s2 e hx => h σ' Z' H' φ' (st.trans s2) e fun i hi => (hx i hi).trans (hf i hi)
theorem Rt.then {Q : VK} {o : O} (st : Stp Z H (Own ρ φ) Z1 H1 (Own ρ1 φ1)) (hf : ∀ i, i ∈ fx → σ1[i]? = σ[i]?) (h : Rt M fx Z H ρ φ σ Q o ρ') : Rt M fx Z1 H1 ρ1 φ1 σ1 Q o ρ' :=
  fun v σ' Z' H' φ' f s2 e r z hx => h v σ' Z' H' φ' f (st.trans s2) e r z fun i hi => (hx i hi).trans (hf i hi)
theorem Dn.then {D : Ends} {fl : Flow} (st : Stp Z H (Own ρ φ) Z1 H1 (Own ρ1 φ1)) (hf : ∀ i, i ∈ fx → σ1[i]? = σ[i]?) (h : Dn M fx Z H ρ φ σ D fl ρ') : Dn M fx Z1 H1 ρ1 φ1 σ1 D fl ρ' := by
  cases fl with
  | nx => exact Nx.then st hf h
  | bk => exact Nx.then st hf h
  | ct => exact Nx.then st hf h
  | rt o => exact Rt.then st hf h
theorem set_fx {i : Nat} {v : Option V} (hi : i ∉ fx) : ∀ j, j ∈ fx → (σ.set i v)[j]? = σ[j]? := fun j hj => by
  rw [List.getElem?_set_ne (fun z => hi (by rw [z]; exact hj))]
/-- an owned thing stored -/
theorem EOk.store {i : Nat} {o : O} {v : V} {f : List Addr} (e : EOk M Z H σ ρ φ) (r : RpO M Z H o v f) (hf : ∀ a ∈ f, Z a = none ∧ ¬ Own ρ φ a) :
    ∃ φ', EOk M Z H (σ.set i (some v)) (setS ρ i (some o)) φ' ∧ ∀ a, Own (setS ρ i (some o)) φ' a → Own ρ φ a ∨ a ∈ f := by
  by_cases hi : i < ρ.length
  · exact ⟨_, e.set r hi fun a ha => ⟨(hf a ha).1, fun j u _ hj hm => (hf a ha).2 ⟨j, u, hj, hm⟩⟩, fun a ha => ha.set.symm⟩
  · rw [setS_out (by omega), List.set_eq_of_length_le (by rw [e.len]; omega)]
    exact ⟨φ, e, fun a => .inl⟩
end
theorem asg_k {i : Nat} {e : E} {D : Ends} {σ : L2.St} {H : Hp} {fx : List Nat} (hi : i ∉ fx) (h : tS M fx (evS G CL W C (.asg i e)) D σ H) : tM M (ev G CL C e false) σ H (fun v H1 => gName i v σ H1 D.nx) := by
  obtain ⟨Z, ρ, φ, fl, ρ', eo, hm, q⟩ := h
  unfold evS at hm
  cases q1 : ev G CL C e false ρ with
  | none => rw [q1] at hm; cases hm
  | some w =>
    obtain ⟨o, ρ1⟩ := w
    rw [q1] at hm
    cases hm
    refine ⟨Z, ρ, φ, o, ρ1, eo, q1, fun v Z1 H1 φ1 f st e1 r hf => ?_⟩
    obtain ⟨φ2, e2, ho⟩ := e1.store (i := i) r hf
    exact q _ Z1 H1 φ2 (st.less ho) e2 (set_fx hi)
theorem frz_k {e : E} {σ : L2.St} {H : Hp} {Q : VK} (h : tM M (ev G CL C (.frz e) false) σ H Q) : tM M (ev G CL C e false) σ H Q := by
  obtain ⟨Z, ρ, φ, o, ρ', eo, hm, q⟩ := h
  unfold ev at hm
  cases q1 : ev G CL C e false ρ with
  | none => rw [q1] at hm; cases hm
  | some w =>
    obtain ⟨o1, ρ1⟩ := w
    rw [q1] at hm
    cases hm
    exact rd_then eo q1 fun v Z1 H1 φ1 st e1 rp => q v Z1 H1 φ1 [] (st.less fun a z => z.elim id fun z => by cases z) e1 ⟨rfl, rp⟩ fun a ha => absurd ha (by simp)
theorem sw_not {e : Expr} {t : Option Expr} {l : Nat} {env : PySem.Env} (h : notLc e = true) : swapsWith e t l env = pure false := by
  cases e <;> first | rfl | cases h
/-- a comprehension's parts, told from the matcher -/
theorem comp_parts {tg : Tg} {k : ItK} {es cs : List E} {a : E} {elt tgt iter : Expr} {ifs : List Expr} {n0 : Int} {scope : Scope} {pos : Pos} (g : Gd M T G CL C n X s) (h : mE T (.comp tg k es cs a) s (.ListComp elt [⟨tgt, iter, ifs, n0⟩] scope pos) = true) :
    ∃ wi gg tt te vs, (∀ σ H Q, tM M (ev G CL C (.comp tg k es cs a) false) σ H Q → tLc wi gg tt te vs σ H Q) ∧ vs = ((tgNames tgt).zip tg.slots).map (·.2) ∧ PI X tgt iter wi ∧ BlkOk X.N X.env.scope scope ((tgNames tgt).zip tg.slots) ∧
      (∀ (s0 : Shared) (H : Hp) (Cd : Addr) (cl : List (Str × Addr)) (fp : List Addr), PG (X.blk s0 H scope (compEnvC scope cl Cd X.env) fp) tgt gg) ∧
      (∀ (s0 : Shared) (H : Hp) (Cd : Addr) (cl : List (Str × Addr)) (fp : List Addr), PTs (X.blk s0 H scope (compEnvC scope cl Cd X.env) fp) ifs tt) ∧
      (∀ (s0 : Shared) (H : Hp) (Cd : Addr) (cl : List (Str × Addr)) (fp : List Addr), PE (X.blk s0 H scope (compEnvC scope cl Cd X.env) fp) elt te) ∧ (∀ x, foldedSetIterable iter X.env x = pure x) ∧ n0 = 0 := by
  unfold mE at h
  simp only [Bool.and_eq_true, decide_eq_true_eq, beq_iff_eq] at h
  obtain ⟨⟨⟨⟨⟨⟨⟨h1, h2⟩, h3⟩, h4⟩, h5⟩, h6⟩, h7⟩, h8⟩ := h
  subst h1
  split at h2
  · rename_i xs hs
    have hi := it_ok g hs (sV es s X xs g h2)
    have hc : ∀ (s0 : Shared) (H : Hp) (Cd : Addr) (cl : List (Str × Addr)) (fp : List Addr), PTs (X.blk s0 H scope (compEnvC scope cl Cd X.env) fp) ifs (fun σ H Q => ∃ Z ρ φ b ρ', EOk M Z H σ ρ φ ∧ evC G CL C cs ρ = some (b, ρ') ∧ ∀ Z' H' φ', Stp Z H (Own ρ φ) Z' H' (Own ρ' φ') → EOk M Z' H' σ ρ' φ' → Q b H') := by
      intro s0 H Cd cl fp
      match cs, h6, h7 with
      | [], _, h7 =>
        have : ifs = [] := by
          unfold mEs at h7
          split at h7 <;> first | rfl | cases h7
        subst this
        refine ⟨fun pins s σ H Q I ⟨Z, ρ, φ, b, ρ', e, hm, q⟩ => pts_nil.run pins s σ H Q I ?_⟩
        cases hm
        exact q Z H φ .refl e
      | [c], _, h7 =>
        match ifs, h7 with
        | [x], h7 =>
          unfold mEs at h7
          rw [Bool.and_eq_true] at h7
          have hp := (sE c (blkSc s scope) _ x (g.blk (s0 := s0) (H := H) (Cd := Cd) (cl := cl) (fp := fp)) h7.1).2
          refine ⟨fun pins s σ H Q I ⟨Z, ρ, φ, b, ρ', e, hm, q⟩ => (pts_one hp).run pins s σ H Q I ⟨Z, ρ, φ, b, ρ', e, ?_, q⟩⟩
          unfold evC at hm
          split at hm
          · rename_i h1
            simp only at hm
            cases hm
            exact h1
          · cases hm
        | [], h7 => cases h7
        | _ :: _ :: _, h7 => simp [mEs] at h7
    obtain ⟨wi, gg, tt, te, vs, w1, w2, w3, w4, w5, w6, w7, w8⟩ := comp_ok (pos := pos) g hi h3 h4 h5 hc fun s0 H Cd cl fp => (sE a (blkSc s scope) _ elt g.blk h8).1
    exact ⟨wi, gg, tt, te, vs, w1, w2, w3, w4, w5, w6, w7, w8, rfl⟩
  · cases h2
theorem isFun_k (g : Gd M T G CL C n X s) (h : isFun s = true) : X.env.scope.kind = .function := by
  unfold isFun at h
  rw [g.sc]
  split at h
  · assumption
  · cases h
theorem kLocal_k (g : Gd M T G CL C n X s) {x : Str} (h : kLocal s x = true) : X.env.scope.names.lookup x = some .local := by
  unfold kLocal at h
  rw [g.sc]
  split at h
  · assumption
  · cases h
theorem asg_comp (g : Gd M T G CL C n X s) {i : Nat} {e0 e : E} {x : Str} {v : Expr} {p spos : Pos} (hc : ∃ tg k es cs a, e0 = .comp tg k es cs a) (hl : loc s i x = true) (ho : lcOk s x p v = true) (hm : mE T e0 s v = true)
    (hw : ∀ σ H Q, tM M (ev G CL C e false) σ H Q → tM M (ev G CL C e0 false) σ H Q) : PS X (.Assign [.Name x p] v spos) (tS M s.fx (evS G CL W C (.asg i e))) := by
  obtain ⟨tg, k, es, cs, a, rfl⟩ := hc
  obtain ⟨l1, l2, l3, l4⟩ := g.loc (pos := p) hl
  unfold lcOk at ho
  split at ho
  · rename_i elt gs scope q
    simp only [Bool.and_eq_true, Bool.not_eq_true'] at ho
    obtain ⟨⟨⟨o1, o2⟩, o3⟩, o4⟩ := ho
    have kl := kLocal_k g o2
    match gs, hm with
    | [⟨tgt, iter, ifs, n0⟩], hm =>
      obtain ⟨wi, gg, tt, te, vs, w1, w2, w3, w4, w5, w6, w7, w8, rfl⟩ := comp_parts g hm
      subst w2
      exact PS.weak (ps_setLc g.calm g.nd l1 kl (sw_true (isFun_k g o1) kl o3 o4) w3 w4 w5 w6 w7 w8) fun D σ H h => w1 _ _ _ (hw _ _ _ (asg_k l4 h))
    | [], hm => simp [mE] at hm
    | _ :: _ :: _, hm => simp [mE] at hm
  · cases ho
end
end EV

namespace EV
open PyProof.Rows PySem L2 PySem.Spec
section
variable {M : Mt} {T : Stat} {G : List D} {CL : List (List Nat)} {C : CallF} {W n : Nat} {X : Cx} {s : Sc}
theorem asg_plain (g : Gd M T G CL C n X s) {i : Nat} {e : E} {x : Str} {v : Expr} {p spos : Pos} (hl : loc s i x = true) (hv : notLc v = true) (hm : PE X v (tM M (ev G CL C e false))) :
    PS X (.Assign [.Name x p] v spos) (tS M s.fx (evS G CL W C (.asg i e))) := by
  obtain ⟨l1, l2, l3, l4⟩ := g.loc (pos := p) hl
  exact PS.weak (ps_set g.nd l1 l2 hm (sw_not hv) l3) fun D σ H h => asg_k l4 h
theorem asg_ok (g : Gd M T G CL C n X s) {i : Nat} {e : E} {x : Str} {v : Expr} {p spos : Pos} (hl : loc s i x = true) (hs : (notLc v || (isComp e && lcOk s x p v)) = true) (hm : mE T e s v = true) :
    PS X (.Assign [.Name x p] v spos) (tS M s.fx (evS G CL W C (.asg i e))) := by
  by_cases hv : notLc v = true
  · exact asg_plain g hl hv (sE e s X v g hm).1
  · have hv' : notLc v = false := by simpa using hv
    rw [hv', Bool.false_or, Bool.and_eq_true] at hs
    unfold isComp at hs
    obtain ⟨h1, h2⟩ := hs
    split at h1
    · exact asg_comp g ⟨_, _, _, _, _, rfl⟩ hl h2 hm fun _ _ _ h => h
    · unfold mE at hm
      rw [Bool.and_eq_true] at hm
      exact asg_comp g ⟨_, _, _, _, _, rfl⟩ hl h2 hm.2 fun _ _ _ h => frz_k h
    · cases h1
theorem mTgs_fx (g : Gd M T G CL C n X s) : ∀ {is : List Nat} {es : List Expr}, mTgs s is es = true → ∀ i, i ∈ is → i ∉ s.fx
  | [], [], _, i, hi => by cases hi
  | [], _ :: _, h, _, _ => by cases h
  | j :: is, e :: es, h, i, hi => by
    cases e with
    | Name x p =>
      unfold mTgs at h
      rw [Bool.and_eq_true] at h
      rcases List.mem_cons.mp hi with rfl | hi
      · exact (g.loc (pos := p) h.1).2.2.2
      · exact mTgs_fx g h.2 i hi
    | _ => cases h
  | _ :: _, [], h, _, _ => by cases h
theorem mTg_fx (g : Gd M T G CL C n X s) {tg : Tg} {e : Expr} (h : mTg s tg e = true) : ∀ i, i ∈ tg.slots → i ∉ s.fx := by
  unfold mTg at h
  split at h
  · intro i hi
    simp [Tg.slots] at hi
    subst hi
    exact (g.loc (pos := default) h).2.2.2
  · exact mTgs_fx g h
  · cases h
theorem bind_fx {tg : Tg} {fx : List Nat} {σ σ' : L2.St} (hn : ∀ i, i ∈ tg.slots → i ∉ fx) (h : ∀ i, i ∉ tg.slots → σ'[i]? = σ[i]?) : ∀ i, i ∈ fx → σ'[i]? = σ[i]? :=
  fun i hi => h i fun z => hn i z hi
theorem unp_k {is : List Nat} {e : E} {D : Ends} {σ : L2.St} {H : Hp} {fx : List Nat} (hi : ∀ i, i ∈ is → i ∉ fx) (h : tS M fx (evS G CL W C (.unp is e)) D σ H) : tM M (ev G CL C e false) σ H (fun v H1 => gT M.K (.many is) v σ H1 D.nx) := by
  obtain ⟨Z, ρ, φ, fl, ρ', eo, hm, q⟩ := h
  unfold evS at hm
  cases q1 : ev G CL C e false ρ with
  | none => rw [q1] at hm; cases hm
  | some w =>
    obtain ⟨o, ρ1⟩ := w
    rw [q1] at hm
    simp only at hm
    cases q2 : bindT (.many is) o.frz ρ1 with
    | none => rw [q2] at hm; cases hm
    | some ρ2 =>
      rw [q2] at hm
      cases hm
      refine rd_then eo q1 fun v Z1 H1 φ1 st e1 rp => bind_ok q2 e1 rp fun σ' φ' hl hs e2 ho _ => q σ' Z1 H1 φ' (st.less ho) e2 (bind_fx (tg := .many is) hi hs)
theorem unp_ok (g : Gd M T G CL C n X s) {is : List Nat} {e : E} {ts : List Expr} {v : Expr} {k : Nat} {p spos : Pos} (h1 : notTup v = true) (h2 : notLc v = true) (h3 : mTgs s is ts = true) (hm : PE X v (tM M (ev G CL C e false))) :
    PS X (.Assign [.Tuple ts k p] v spos) (tS M s.fx (evS G CL W C (.unp is e))) := by
  have hg : PG X (.Tuple ts k p) (gT M.K (.many is)) := g_ok g (tg := .many is) (e := .Tuple ts k p) h3
  refine PS.weak (ps_asg hm hg (by unfold swapsWithSole; exact sw_not h2) ?_ rfl) fun D σ H h => unp_k (mTgs_fx g h3) h
  cases v <;> first | rfl | cases h1
theorem blk_fun {env : PySem.Env} (h : env.scope.kind = .function) : env.blockKind = .function := by unfold Env.blockKind; rw [h]; rfl
theorem par_ok (g : Gd M T G CL C n X s) {i j : Nat} {u w : E} {x y : Str} {a b : Expr} {px py p p2 spos : Pos} {k k2 : Nat} (h : parOk s i j x y px py a b = true) (ha : PE X a (tM M (ev G CL C u false))) (hb : PE X b (tM M (ev G CL C w false))) :
    PS X (.Assign [.Tuple [.Name x px, .Name y py] k p] (.Tuple [a, b] k2 p2) spos) (tS M s.fx (evS G CL W C (.unp [i, j] (.tup [u, w])))) := by
  unfold parOk at h
  simp only [Bool.and_eq_true, decide_eq_true_eq, Bool.not_eq_true', beq_iff_eq] at h
  obtain ⟨⟨⟨⟨⟨⟨⟨⟨⟨⟨⟨⟨⟨h1, h2⟩, h3⟩, h4⟩, h5⟩, h6⟩, h7⟩, h8⟩, h9⟩, h10⟩, h11⟩, h12⟩, h13⟩, h14⟩ := h
  have kx := kLocal_k g h2
  have ky := kLocal_k g h3
  have hbk := blk_fun (isFun_k g h1)
  have e1 : X.env.kindOf x = some .local := kx
  have e2 : X.env.kindOf y = some .local := ky
  have hw : swappedStores [.Tuple [.Name x px, .Name y py] k p] (.Tuple [a, b] k2 p2) X.env = pure (some [x, y]) := by
    have ed : ([x, y].eraseDups).length = 2 := by
      have : (y == x) = false := by simpa using fun z => h10 z.symm
      simp [List.eraseDups_cons, this]
    have c1 : (([a, b].all (foldedForSure 8)) = false) := by simpa [List.all_cons] using h13
    have c2 : (([a, b].all (constantsAlone 8)) = false) := by simpa [List.all_cons] using h14
    unfold swappedStores
    simp only [hbk, c1, c2]
    simp [e1, e2, h9, ed, Expr.pos]
    intro z
    exfalso
    rcases z with z | z <;> split at z <;> first | (cases z; done) | (cases h11; done) | (cases h12; done)
  refine PS.weak (ps_par g.calm g.nd (by rw [g.N]; exact h4) (by rw [g.N]; exact h5) h6 kx ky (pa_of (ts := [tM M (ev G CL C u false), tM M (ev G CL C w false)]) ⟨ha, hb, True.intro⟩ (by simp [h11, h12])) hw rfl) fun D σ H h => ?_
  obtain ⟨Z, ρ, φ, fl, ρ', eo, hm, q⟩ := h
  unfold evS at hm
  unfold ev at hm
  cases q1 : evV G CL C [u, w] ρ with
  | none => rw [q1] at hm; cases hm
  | some z =>
    obtain ⟨ds, ρ1⟩ := z
    rw [q1] at hm
    simp only at hm
    by_cases hz : ds.length ≤ sizeLine
    · rw [if_pos hz] at hm
      simp only [post] at hm
      cases q2 : bindT (.many [i, j]) (O.val (.tup ds)).frz ρ1 with
      | none => rw [q2] at hm; cases hm
      | some ρ2 =>
        rw [q2] at hm
        cases hm
        refine vals_ok [u, w] eo q1 fun vs Z1 H1 φ1 st e1 ra => ?_
        have q3 : bindMany [i, j] ds ρ1 = some _ := q2
        have hl := bindMany_len q3
        match ds, vs, hl, ra, q3 with
        | [d1, d2], [v1, v2], _, ra, q3 =>
          refine ⟨v1, v2, rfl, ?_⟩
          have hg : gMany [i, j] [v1, v2] σ H1 (fun σ' H' => σ' = (σ.set i (some v1)).set j (some v2) → D.nx σ' H') := many_ok q3 e1 ra fun σ' φ' hl hs e2 ho _ => fun es => by
            refine q σ' Z1 H1 φ' (st.less ho) e2 (bind_fx (tg := .many [i, j]) (fun a ha => ?_) hs)
            simp [Tg.slots] at ha
            rcases ha with rfl | rfl
            · simpa using h7
            · simpa using h8
          obtain ⟨_, _, hv, _, _, hv2, _, hg⟩ := hg
          cases hv
          cases hv2
          exact hg rfl
        | [_, _], [], _, ra, _ => obtain ⟨_, _, z, _⟩ := ra; cases z
        | [_, _], [_], _, ra, _ => obtain ⟨_, _, z, _, _, _, z2, _⟩ := ra; cases z; cases z2
        | [_, _], _ :: _ :: _ :: _, _, ra, _ => obtain ⟨_, _, z, _, _, _, z2, _, z3⟩ := ra; cases z; cases z2; cases z3
    · rw [if_neg hz] at hm; cases hm
theorem expr_ok {e : E} {y : Expr} {fx : List Nat} {pos : Pos} (h1 : notLc y = true) (hm : PE X y (tM M (ev G CL C e false))) : PS X (.Expr y pos) (tS M fx (evS G CL W C (.expr e))) := by
  refine PS.weak (ps_expr hm (sw_not h1)) fun D σ H h => ?_
  obtain ⟨Z, ρ, φ, fl, ρ', eo, hm, q⟩ := h
  unfold evS at hm
  cases q1 : ev G CL C e false ρ with
  | none => rw [q1] at hm; cases hm
  | some w =>
    obtain ⟨o, ρ1⟩ := w
    rw [q1] at hm
    cases hm
    exact ⟨Z, ρ, φ, o, _, eo, q1, fun v Z1 H1 φ1 f st e1 r hf => q σ Z1 H1 φ1 (st.less fun a => .inl) e1 fun _ _ => rfl⟩
theorem ret_ok {e : E} {y : Expr} {fx : List Nat} {pos : Pos} (hm : PE X y (tM M (ev G CL C e false))) : PS X (.Return (some y) pos) (tS M fx (evS G CL W C (.ret e))) := by
  refine PS.weak (ps_ret hm) fun D σ H h => ?_
  obtain ⟨Z, ρ, φ, fl, ρ', eo, hm, q⟩ := h
  unfold evS at hm
  cases q1 : ev G CL C e false ρ with
  | none => rw [q1] at hm; cases hm
  | some w =>
    obtain ⟨o, ρ1⟩ := w
    rw [q1] at hm
    cases hm
    exact ⟨Z, ρ, φ, _, _, eo, q1, fun v Z1 H1 φ1 f st e1 r hf => q v σ Z1 H1 φ1 f st e1 r hf fun _ _ => rfl⟩
theorem retN_ok {fx : List Nat} {pos : Pos} : PS X (.Return none pos) (tS M fx (evS G CL W C .retN)) := by
  refine PS.weak ps_retN fun D σ H h => ?_
  obtain ⟨Z, ρ, φ, fl, ρ', eo, hm, q⟩ := h
  cases hm
  exact q .non σ Z H φ [] (Stp.refl.less fun a z => z.elim id fun z => by cases z) eo ⟨rfl, rfl⟩ (fun a ha => absurd ha (by simp)) fun _ _ => rfl
theorem nx_here {K : L2.St → Hp → Prop} {fx : List Nat} {Z H : Hp} {ρ : Env} {φ : Nat → List Addr} {σ : L2.St} (e : EOk M Z H σ ρ φ) (q : Nx M fx Z H ρ φ σ K ρ) : K σ H := q σ Z H φ .refl e fun _ _ => rfl
theorem pass_ok {fx : List Nat} {pos : Pos} : PS X (.Pass pos) (tS M fx (evS G CL W C .pass)) := PS.weak ps_pass fun D σ H ⟨Z, ρ, φ, fl, ρ', eo, hm, q⟩ => by
  cases hm
  exact nx_here eo q
theorem doc_ok {fx : List Nat} {y : Expr} {pos : Pos} (h : docE y = true) : PS X (.Expr y pos) (tS M fx (evS G CL W C .pass)) := by
  unfold docE at h
  split at h
  · exact PS.weak ps_doc fun D σ H ⟨Z, ρ, φ, fl, ρ', eo, hm, q⟩ => by
      cases hm
      exact nx_here eo q
  · cases h
theorem brk_ok {fx : List Nat} {pos : Pos} : PS X (.Break pos) (tS M fx (evS G CL W C .brk)) := PS.weak ps_break fun D σ H ⟨Z, ρ, φ, fl, ρ', eo, hm, q⟩ => by
  cases hm
  exact nx_here eo q
theorem cont_ok {fx : List Nat} {pos : Pos} : PS X (.Continue pos) (tS M fx (evS G CL W C .cont)) := PS.weak ps_continue fun D σ H ⟨Z, ρ, φ, fl, ρ', eo, hm, q⟩ => by
  cases hm
  exact nx_here eo q
theorem fail_ok {fx : List Nat} {st : Stmt} : PS X st (tS M fx (evS G CL W C .fail)) := ⟨fun pins s σ H D I ⟨Z, ρ, φ, fl, ρ', eo, hm, q⟩ => by unfold evS at hm; cases hm⟩
theorem failL_ok {fx : List Nat} {sts : List Stmt} {ss : List S} : PSs X sts (tS M fx (evSs G CL W C (.fail :: ss))) := ⟨fun pins s σ H D I ⟨Z, ρ, φ, fl, ρ', eo, hm, q⟩ => by unfold evSs evS at hm; cases hm⟩
theorem nil_ok {fx : List Nat} : PSs X [] (tS M fx (evSs G CL W C [])) := ⟨fun pins s σ H D I ⟨Z, ρ, φ, fl, ρ', eo, hm, q⟩ => pss_nil.run pins s σ H D I (by
  unfold evSs at hm
  cases hm
  exact nx_here eo q)⟩
theorem cons_ok {fx : List Nat} {st : Stmt} {sts : List Stmt} {x : S} {ss : List S} (h1 : PS X st (tS M fx (evS G CL W C x))) (h2 : PSs X sts (tS M fx (evSs G CL W C ss))) : PSs X (st :: sts) (tS M fx (evSs G CL W C (x :: ss))) := by
  refine PSs.weak (pss_cons h1 h2) fun D σ H ⟨Z, ρ, φ, fl, ρ', eo, hm, q⟩ => ?_
  unfold evSs at hm
  cases q1 : evS G CL W C x ρ with
  | none => rw [q1] at hm; cases hm
  | some w =>
    obtain ⟨f1, ρ1⟩ := w
    rw [q1] at hm
    cases f1 with
    | nx => exact ⟨Z, ρ, φ, .nx, ρ1, eo, q1, fun σ' Z' H' φ' st e' hx => ⟨Z', ρ1, φ', fl, ρ', e', hm, q.then st hx⟩⟩
    | bk => cases hm; exact ⟨Z, ρ, φ, .bk, _, eo, q1, q⟩
    | ct => cases hm; exact ⟨Z, ρ, φ, .ct, _, eo, q1, q⟩
    | rt o => cases hm; exact ⟨Z, ρ, φ, .rt o, _, eo, q1, q⟩
theorem if_ok {fx : List Nat} {c : E} {a b : List S} {x : Expr} {u w : List Stmt} {pos : Pos} (hc : PT X x (tT M (ev G CL C c true))) (ha : PSs X u (tS M fx (evSs G CL W C a))) (hb : PSs X w (tS M fx (evSs G CL W C b))) :
    PS X (.If x u w pos) (tS M fx (evS G CL W C (.ite c a b))) := by
  refine PS.weak (ps_if hc ha hb) fun D σ H ⟨Z, ρ, φ, fl, ρ', eo, hm, q⟩ => ?_
  unfold evS at hm
  split at hm
  · rename_i ρ1 h1
    exact ⟨Z, ρ, φ, true, ρ1, eo, h1, fun Z1 H1 φ1 st e1 => iteT ⟨Z1, ρ1, φ1, fl, ρ', e1, hm, q.then st fun _ _ => rfl⟩⟩
  · rename_i ρ1 h1
    exact ⟨Z, ρ, φ, false, ρ1, eo, h1, fun Z1 H1 φ1 st e1 => iteF ⟨Z1, ρ1, φ1, fl, ρ', e1, hm, q.then st fun _ _ => rfl⟩⟩
  · cases hm
theorem while_ok (g : Gd M T G CL C n X s) {fx : List Nat} {c : E} {b : List S} {x : Expr} {u : List Stmt} {pos : Pos} (hc : PT X x (tT M (ev G CL C c true))) (hb : PSs X u (tS M fx (evSs G CL W C b))) :
    PS X (.While x u [] pos) (tS M fx (evS G CL W C (.while c b))) := by
  refine PS.weak (ps_while (by rw [g.xe]; exact PassesOwn.never) hc hb) fun D σ H ⟨Z, ρ, φ, fl, ρ', eo, hm, q⟩ => ?_
  unfold evS at hm
  refine ⟨fun m σ2 H2 => ∃ Z2 ρ2 φ2, EOk M Z2 H2 σ2 ρ2 φ2 ∧ Stp Z H (Own ρ φ) Z2 H2 (Own ρ2 φ2) ∧ (∀ i, i ∈ fx → σ2[i]? = σ[i]?) ∧ whileGo (ev G CL C c true) (evSs G CL W C b) m ρ2 = some (fl, ρ'), ⟨W, Z, ρ, φ, eo, .refl, fun _ _ => rfl, hm⟩, ?_⟩
  rintro m σ2 H2 ⟨Z2, ρ2, φ2, e2, st2, hx2, hgo⟩
  cases m with
  | zero => cases hgo
  | succ m =>
    unfold whileGo at hgo
    split at hgo
    · rename_i ρ3 h3
      refine ⟨Z2, ρ2, φ2, true, ρ3, e2, h3, fun Z3 H3 φ3 st3 e3 => iteT ⟨fun σ' H' => ∃ Z2 ρ2 φ2, EOk M Z2 H' σ' ρ2 φ2 ∧ Stp Z H (Own ρ φ) Z2 H' (Own ρ2 φ2) ∧ (∀ i, i ∈ fx → σ'[i]? = σ[i]?) ∧ whileGo (ev G CL C c true) (evSs G CL W C b) m ρ2 = some (fl, ρ'), fun σ' H' z => ⟨m, Nat.lt_succ_self m, z⟩, ?_⟩⟩
      have st13 := st2.trans st3
      split at hgo
      · cases hgo
      · rename_i ρ4 h4
        exact ⟨Z3, ρ3, φ3, .nx, ρ4, e3, h4, fun σ' Z4 H4 φ4 st4 e4 hx4 => ⟨Z4, ρ4, φ4, e4, st13.trans st4, fun i hi => (hx4 i hi).trans (hx2 i hi), hgo⟩⟩
      · rename_i ρ4 h4
        exact ⟨Z3, ρ3, φ3, .ct, ρ4, e3, h4, fun σ' Z4 H4 φ4 st4 e4 hx4 => ⟨Z4, ρ4, φ4, e4, st13.trans st4, fun i hi => (hx4 i hi).trans (hx2 i hi), hgo⟩⟩
      · rename_i ρ4 h4
        cases hgo
        exact ⟨Z3, ρ3, φ3, .bk, _, e3, h4, Nx.then st13 hx2 q⟩
      · rename_i o ρ4 h4
        cases hgo
        exact ⟨Z3, ρ3, φ3, .rt o, _, e3, h4, Rt.then st13 hx2 q⟩
    · rename_i ρ3 h3
      cases hgo
      exact ⟨Z2, ρ2, φ2, false, _, e2, h3, fun Z3 H3 φ3 st3 e3 => iteF (q σ2 Z3 H3 φ3 (st2.trans st3) e3 hx2)⟩
    · cases hgo
theorem for_ok (g : Gd M T G CL C n X s) {tg : Tg} {k : ItK} {es : List E} {b : List S} {tgt iter : Expr} {u : List Stmt} {pos : Pos} (hi : PI X tgt iter (tI M G CL C k es)) (hns : notSet iter = true) (htg : mTg s tg tgt = true) (hb : PSs X u (tS M s.fx (evSs G CL W C b))) :
    PS X (.For tgt iter u [] pos) (tS M s.fx (evS G CL W C (.for tg k es b))) := by
  refine PS.weak (ps_for (by rw [g.xe]; exact PassesOwn.never) g.calm hi (g_ok g htg) hb (fun x => by cases iter <;> first | rfl | cases hns)) fun D σ H ⟨Z, ρ, φ, fl, ρ', eo, hm, q⟩ => ?_
  unfold evS at hm
  cases h1 : evV G CL C es ρ with
  | none => rw [h1] at hm; cases hm
  | some p1 =>
  obtain ⟨ds, ρ1⟩ := p1
  rw [h1] at hm
  simp only at hm
  cases h2 : iterD k ds with
  | none => rw [h2] at hm; cases hm
  | some xs =>
  rw [h2] at hm
  simp only at hm
  refine ⟨Z, ρ, φ, ds, ρ1, xs, eo, h1, h2, fun J Z1 H1 φ1 st1 e1 hJ => ?_⟩
  refine ⟨fun i m σ2 H2 => m = xs.length - i ∧ i ≤ xs.length ∧ ∃ Z2 ρ2 φ2, EOk M Z2 H2 σ2 ρ2 φ2 ∧ Stp Z1 H1 (Own ρ1 φ1) Z2 H2 (Own ρ2 φ2) ∧ (∀ i, i ∈ s.fx → σ2[i]? = σ[i]?) ∧ forGo (bindT tg) (evSs G CL W C b) (xs.drop i) ρ2 = some (fl, ρ'), ⟨xs.length, by simp, Nat.zero_le _, Z1, ρ1, φ1, e1, .refl, fun _ _ => rfl, by rw [List.drop_zero]; exact hm⟩, ?_⟩
  rintro i m σ2 H2 ⟨rfl, hi', Z2, ρ2, φ2, e2, st2, hx2, hgo⟩
  by_cases hlt : i < xs.length
  · refine .inr ⟨hJ.go i H2 (st2.zz.trans e2.sub) hlt, fun σ' H' => i + 1 ≤ xs.length ∧ ∃ Z2 ρ2 φ2, EOk M Z2 H' σ' ρ2 φ2 ∧ Stp Z1 H1 (Own ρ1 φ1) Z2 H' (Own ρ2 φ2) ∧ (∀ i, i ∈ s.fx → σ'[i]? = σ[i]?) ∧ forGo (bindT tg) (evSs G CL W C b) (xs.drop (i + 1)) ρ2 = some (fl, ρ'), fun σ' H' z => ⟨xs.length - (i + 1), by omega, rfl, z⟩, fun v H3 hy => ?_⟩
    have hx : xs[i]? = some xs[i] := List.getElem?_eq_getElem hlt
    obtain ⟨Z3, x3, r3⟩ := hJ.yld i H2 v H3 Z2 _ st2.zz e2.sub hx hy
    have e3 := e2.ext x3
    rw [List.drop_eq_getElem_cons hlt] at hgo
    unfold forGo at hgo
    cases h5 : bindT tg xs[i] ρ2 with
    | none => rw [h5] at hgo; cases hgo
    | some ρ3 =>
    rw [h5] at hgo
    simp only at hgo
    refine bind_ok h5 e3 r3 fun σ' φ3 hl hs e4 ho _ => ?_
    have hx3 : ∀ i, i ∈ s.fx → σ'[i]? = σ[i]? := fun j hj => (bind_fx (mTg_fx g htg) hs j hj).trans (hx2 j hj)
    have st13 : Stp Z1 H1 (Own ρ1 φ1) Z3 H3 (Own ρ3 φ3) := (st2.trans (x3.stp (P := Own ρ2 φ2))).less fun a z => .inl (ho a z)
    split at hgo
    · cases hgo
    · rename_i ρ4 h4
      exact ⟨Z3, ρ3, φ3, .nx, ρ4, e4, h4, fun σ5 Z5 H5 φ5 st5 e5 hx5 => ⟨hlt, Z5, ρ4, φ5, e5, st13.trans st5, fun j hj => (hx5 j hj).trans (hx3 j hj), hgo⟩⟩
    · rename_i ρ4 h4
      exact ⟨Z3, ρ3, φ3, .ct, ρ4, e4, h4, fun σ5 Z5 H5 φ5 st5 e5 hx5 => ⟨hlt, Z5, ρ4, φ5, e5, st13.trans st5, fun j hj => (hx5 j hj).trans (hx3 j hj), hgo⟩⟩
    · rename_i ρ4 h4
      cases hgo
      exact ⟨Z3, ρ3, φ3, .bk, _, e4, h4, Nx.then (st1.trans st13) hx3 q⟩
    · rename_i o ρ4 h4
      cases hgo
      exact ⟨Z3, ρ3, φ3, .rt o, _, e4, h4, Rt.then (st1.trans st13) hx3 q⟩
  · have : i = xs.length := by omega
    subst this
    rw [List.drop_length] at hgo
    have hgo : some (Flow.nx, ρ2) = some (fl, ρ') := hgo
    simp only [Option.some.injEq, Prod.mk.injEq] at hgo
    obtain ⟨hr0, hr1⟩ := hgo
    subst hr0
    subst hr1
    exact .inl ⟨hJ.stop _ H2 (st2.zz.trans e2.sub) (Nat.le_refl _), q σ2 Z2 H2 φ2 (st1.trans st2) e2 hx2⟩
end
end EV

namespace EV
open PyProof.Rows PySem L2 PySem.Spec
section
variable {M : Mt} {T : Stat} {G : List D} {CL : List (List Nat)} {C : CallF} {W n : Nat} {X : Cx} {s : Sc}
theorem vis_cell {s : Sc} {i : Nat} {x : Str} (h : vis s i x = true) : s.N[i]? = some x := by
  unfold EV.vis at h
  simp only [Bool.and_eq_true, decide_eq_true_eq] at h
  exact h.1.1
theorem app_stm (g : Gd M T G CL C n X s) {i : Nat} {e : E} {x : Str} {y : Expr} {fx : List Nat} {p apos cpos pos : Pos} (hv : vis s i x = true) (hl : (apos.endLine == cpos.line) = true) (hy : notStar y = true) (ha : PE X y (tM M (ev G CL C e false))) :
    PS X (.Expr (.Call (.Attribute (.Name x p) "append" apos) [y] [] cpos) pos) (tS M fx (evS G CL W C (.mut .app i [e]))) := by
  have hst := starEach_of (xs := []) (env := X.env) hy
  refine PS.weak (ps_expr (pe_bm PySem.F.plainAttrs_list PySem.F.slot_list_append PySem.F.type_list_append mt_append (g.vis hv) (pa_cons ha pa_nil hst) rfl (by rw [hst]; rfl) hl hst rfl)) fun D σ H ⟨Z, ρ, φ, fl, ρ', eo, hm, q⟩ => ?_
  unfold evS at hm
  split at hm
  · rename_i xs0 hi0
    unfold evV at hm
    cases q1 : ev G CL C e false ρ with
    | none => rw [q1] at hm; cases hm
    | some w =>
    obtain ⟨o1, ρ1⟩ := w
    rw [q1] at hm
    simp only [evV] at hm
    split at hm
    · cases hm
    · rename_i o hi
      split at hm
      · cases hm
      · rename_i o' ho'
        cases hm
        cases o with
        | lst xs =>
          unfold mutO at ho'
          simp only at ho'
          obtain ⟨hz, ho'⟩ := ite_some ho'
          cases ho'
          obtain ⟨v, h1, h2⟩ := eo.hold i _ hi0
          obtain ⟨b, vs0, rfl, h3, h4, h5⟩ := h2
          refine ⟨.ref b, h1, Or.inl ⟨rfl, vs0, .inl (.inl h4)⟩, ?_⟩
          refine rd_then eo q1 fun w Z1 H1 φ1 st1 e1 rp => ?_
          obtain ⟨v', g1, g2⟩ := e1.hold i _ hi
          rw [h1] at g1
          cases g1
          obtain ⟨b', vs, eb, f3, f4, f5⟩ := g2
          cases eb
          obtain ⟨e2, st2⟩ := slot_write (o' := .lst (xs ++ [o1.frz])) (ho := .lst (vs ++ [w])) e1 hi f3 (fun H' hH => ⟨b, _, rfl, rfl, hH, f5.snoc rp⟩) h1
          exact ⟨b, vs, w, rfl, rfl, f4, by rw [f5.length]; exact hz, q σ Z1 _ φ1 (st1.trans st2) e2 fun _ _ => rfl⟩
        | _ => cases ho'
  · cases hm
theorem rev_stm (g : Gd M T G CL C n X s) {i : Nat} {x : Str} {fx : List Nat} {p apos cpos pos : Pos} (hv : vis s i x = true) (hl : (apos.endLine == cpos.line) = true) :
    PS X (.Expr (.Call (.Attribute (.Name x p) "reverse" apos) [] [] cpos) pos) (tS M fx (evS G CL W C (.mut .rev i []))) := by
  refine PS.weak (ps_expr (pe_bm0 PySem.F.plainAttrs_list PySem.F.slot_list_reverse PySem.F.type_list_reverse mt_reverse (g.vis hv) rfl hl)) fun D σ H ⟨Z, ρ, φ, fl, ρ', eo, hm, q⟩ => ?_
  unfold evS at hm
  split at hm
  · rename_i xs0 hi0
    simp only [evV] at hm
    split at hm
    · cases hm
    · rename_i o hi
      rw [hi0] at hi
      cases hi
      split at hm
      · cases hm
      · rename_i o' ho'
        cases hm
        cases ho'
        obtain ⟨v, h1, h2⟩ := eo.hold i _ hi0
        obtain ⟨b, vs0, rfl, h3, h4, h5⟩ := h2
        obtain ⟨e2, st2⟩ := slot_write (o' := .lst xs0.reverse) (ho := .lst vs0.reverse) eo hi0 h3 (fun H' hH => ⟨b, _, rfl, rfl, hH, h5.rev⟩) h1
        exact ⟨.ref b, h1, Or.inl ⟨rfl, vs0, .inl (.inl h4)⟩, b, vs0, rfl, rfl, h4, q σ Z _ φ st2 e2 fun _ _ => rfl⟩
  · cases hm
theorem aug_stm (g : Gd M T G CL C n X s) {i : Nat} {pr : Pr} {op : Operator} {e : E} {x : Str} {y : Expr} {p pos : Pos} (hv : loc s i x = true) (ho : augOf pr = some op) (ha : PE X y (tM M (ev G CL C e false))) :
    PS X (.AugAssign (.Name x p) op y pos) (tS M s.fx (evS G CL W C (.aug i pr e))) := by
  obtain ⟨l1, l2, l3, l4⟩ := g.loc (pos := p) hv
  have key : ∀ (f : Int → Int → Int), PIp X op (ipI f) → (∀ a b r, prim pr [.int a, .int b] = some (.val (.int r)) → r = f a b) → PS X (.AugAssign (.Name x p) op y pos) (tS M s.fx (evS G CL W C (.aug i pr e))) := by
    intro f hp hpr
    refine PS.weak (ps_aug g.nd l1 l2 ha hp l3) fun D σ H ⟨Z, ρ, φ, fl, ρ', eo, hm, q⟩ => ?_
    unfold evS at hm
    split at hm
    · rename_i a hi
      cases q1 : ev G CL C e false ρ with
      | none => rw [q1] at hm; cases hm
      | some w =>
      obtain ⟨o1, ρ1⟩ := w
      rw [q1] at hm
      simp only at hm
      split at hm
      · rename_i b hb
        split at hm
        · rename_i r hr
          cases hm
          have := hpr _ _ _ hr
          subst this
          obtain ⟨v, h1, h2⟩ := eo.hold i _ hi
          obtain ⟨_, h2⟩ := h2
          have h2 : v = .int a := h2
          subst h2
          refine ⟨.int a, h1, rd_then eo q1 fun w Z1 H1 φ1 st1 e1 rp => ?_⟩
          rw [hb] at rp
          refine ⟨a, b, rfl, rp, ?_⟩
          exact q _ Z1 H1 _ (st1.less fun z hz => by
            rcases hz.set with h | h
            · cases h
            · exact h) (e1.setV (i := i) (d := .int (f a b)) (v := .int (f a b)) rfl) (set_fx l4)
        · cases hm
      · cases hm
    · cases hm
  unfold augOf at ho
  split at ho
  · cases ho
    exact key _ ip_add fun a b r h => by cases h; rfl
  · cases ho
    exact key _ ip_sub fun a b r h => by cases h; rfl
  · cases ho
end
end EV

namespace EV
open PyProof.Rows PySem L2 PySem.Spec
theorem PS.or {X : Cx} {st : Stmt} {t u : TS} (h1 : PS X st t) (h2 : PS X st u) : PS X st (fun D σ H => t D σ H ∨ u D σ H) :=
  ⟨fun pins s σ H D I h => h.elim (h1.run pins s σ H D I) (h2.run pins s σ H D I)⟩
section
variable {M : Mt} {T : Stat} {G : List D} {CL : List (List Nat)} {C : CallF} {W n : Nat} {X : Cx} {s : Sc}
theorem rpk_any {Z : Hp} : ∀ {ds : List (Key × D)} {vs : List (Key × V)} (k : Key), RpK M Z ds vs → (vs.any fun kv => decide (kv.1 = k)) = ds.any fun kv => decide (kv.1 = k)
  | [], _, _, h => by cases h; rfl
  | (k', d) :: ds, _, k, h => by
    obtain ⟨v, vs, rfl, h1, h2⟩ := h
    simp only [List.any_cons, rpk_any k h2]
theorem rpk_map {Z : Hp} {d0 : D} {v0 : V} (h0 : Rp M Z d0 v0) (k : Key) : ∀ {ds : List (Key × D)} {vs : List (Key × V)}, RpK M Z ds vs → RpK M Z (ds.map fun kv => if kv.1 = k then (kv.1, d0) else kv) (vs.map fun kv => if kv.1 = k then (kv.1, v0) else kv)
  | [], _, h => by cases h; simp [RpK]
  | (k', d) :: ds, _, h => by
    obtain ⟨v, vs, rfl, h1, h2⟩ := h
    have ih := rpk_map h0 k h2
    simp only [List.map_cons]
    by_cases e : k' = k
    · rw [if_pos e, if_pos e]; exact ⟨v0, _, rfl, h0, ih⟩
    · rw [if_neg e, if_neg e]; exact ⟨v, _, rfl, h1, ih⟩
theorem rpk_snoc {Z : Hp} {d0 : D} {v0 : V} (h0 : Rp M Z d0 v0) (k : Key) : ∀ {ds : List (Key × D)} {vs : List (Key × V)}, RpK M Z ds vs → RpK M Z (ds ++ [(k, d0)]) (vs ++ [(k, v0)])
  | [], _, h => by cases h; exact ⟨v0, [], rfl, h0, rfl⟩
  | (k', d) :: ds, _, h => by
    obtain ⟨v, vs, rfl, h1, h2⟩ := h
    exact ⟨v, _, rfl, h1, rpk_snoc h0 k h2⟩
theorem rpk_put {Z : Hp} {d0 : D} {v0 : V} (h0 : Rp M Z d0 v0) (k : Key) {ds : List (Key × D)} {vs : List (Key × V)} (h : RpK M Z ds vs) : RpK M Z (aput ds k d0) (putK vs k v0) := by
  unfold aput putK
  rw [rpk_any k h]
  split
  · exact rpk_map h0 k h
  · exact rpk_snoc h0 k h
theorem rpk_len {Z : Hp} : ∀ {ds : List (Key × D)} {vs : List (Key × V)}, RpK M Z ds vs → vs.length = ds.length
  | [], _, h => by cases h; rfl
  | (k', d) :: ds, _, h => by
    obtain ⟨v, vs, rfl, h1, h2⟩ := h
    simp [rpk_len h2]
theorem key1_kV {Z : Hp} {d : D} {v : V} {k : Key} (h : key1 d = some k) (r : Rp M Z d v) : v = kV k := by
  cases d with
  | int i => cases h; exact r
  | str x => cases h; exact r
  | _ => cases h
theorem setI_stm (g : Gd M T G CL C n X s) {i : Nat} {k e : E} {x : Str} {y v : Expr} {p p2 pos : Pos} (hv : vis s i x = true) (hn : notLc v = true) (hy : notSlice y = true) (hk : PE X y (tM M (ev G CL C k false))) (he : PE X v (tM M (ev G CL C e false))) :
    PS X (.Assign [.Subscript (.Name x p) y p2] v pos) (tS M s.fx (evS G CL W C (.setI i k e))) := by
  have hu : X.A.units + 1 < cLine := by have := g.hu; omega
  have h1 := ps_asg (pos := pos) he (pg_sub (pos := p2) (g.vis (pos := p) hv) hk set_list (by intro v; cases y <;> first | rfl | cases hy)) (by unfold swapsWithSole; exact sw_not hn) (by cases v <;> rfl)
  have h2 := ps_dput (pos := pos) (pos' := p2) hu (g.vis (pos := p) hv) hk he (sw_not hn)
  refine PS.weak (PS.or h1 h2) fun D σ H ⟨Z, ρ, φ, fl, ρ', eo, hm, q⟩ => ?_
  unfold evS at hm
  cases q1 : ev G CL C e false ρ with
  | none => rw [q1] at hm; cases hm
  | some w1 =>
  obtain ⟨o1, ρ1⟩ := w1
  rw [q1] at hm
  simp only at hm
  cases q0 : getS ρ1 i with
  | none => rw [q0] at hm; cases hm
  | some o0 =>
  rw [q0] at hm
  simp only at hm
  cases q2 : ev G CL C k false ρ1 with
  | none => rw [q2] at hm; cases hm
  | some w2 =>
  obtain ⟨o2, ρ2⟩ := w2
  rw [q2] at hm
  simp only at hm
  cases q3 : getS ρ2 i with
  | none => rw [q3] at hm; cases hm
  | some o =>
  rw [q3] at hm
  simp only at hm
  cases q4 : setO o o2.frz o1.frz with
  | none => rw [q4] at hm; cases hm
  | some o' =>
  rw [q4] at hm
  cases hm
  cases o with
  | lst xs =>
    refine .inl ?_
    unfold setO at q4
    simp only at q4
    split at q4
    · rename_i i0 hi0
      cases q5 : ixN xs.length i0 with
      | none => rw [q5] at q4; cases q4
      | some j =>
      rw [q5] at q4
      cases q4
      refine rd_then eo q1 fun w Z1 H1 φ1 st1 e1 rp1 => ?_
      obtain ⟨u, g1, g2⟩ := e1.hold i _ q0
      refine ⟨u, g1, rd_then e1 q2 fun w2 Z2 H2 φ2 st2 e2 rp2 => ?_⟩
      obtain ⟨u', g3, g4⟩ := e2.hold i _ q3
      rw [g1] at g3
      cases g3
      obtain ⟨b, vs, rfl, f3, f4, f5⟩ := g4
      rw [hi0] at rp2
      have rp2 : w2 = V.int i0 := rp2
      subst rp2
      have rp1' := Rp.mono st2.zz _ _ rp1
      obtain ⟨e3, st3⟩ := slot_write (o' := .lst (xs.set j o1.frz)) (ho := .lst (vs.set j w)) e2 q3 f3 (fun H' hH => ⟨b, _, rfl, rfl, hH, f5.set j rp1'⟩) g1
      exact ⟨b, vs, i0, j, rfl, rfl, f4, by rw [f5.length]; exact q5, q σ Z2 _ φ2 ((st1.trans st2).trans st3) e3 fun _ _ => rfl⟩
    · cases q4
  | dctK kvs =>
    refine .inr ?_
    unfold setO at q4
    simp only at q4
    obtain ⟨hz, q4⟩ := ite_some q4
    cases q5 : key1 o2.frz with
    | none => rw [q5] at q4; cases q4
    | some κ =>
    rw [q5] at q4
    cases q4
    refine rd_then eo q1 fun w Z1 H1 φ1 st1 e1 rp1 => ?_
    obtain ⟨u, g1, g2⟩ := e1.hold i _ q0
    refine ⟨u, g1, rd_then e1 q2 fun w2 Z2 H2 φ2 st2 e2 rp2 => ?_⟩
    obtain ⟨u', g3, g4⟩ := e2.hold i _ q3
    rw [g1] at g3
    cases g3
    obtain ⟨b, vs, rfl, f3, f4, f5⟩ := g4
    have hk2 := key1_kV q5 rp2
    subst hk2
    have rp1' := Rp.mono st2.zz _ _ rp1
    obtain ⟨e3, st3⟩ := slot_write (o' := .dctK (aput kvs κ o1.frz)) (ho := .dK (putK vs κ w)) e2 q3 f3 (fun H' hH => ⟨b, _, rfl, rfl, hH, rpk_put rp1' κ f5⟩) g1
    exact ⟨b, _, rfl, DPut.k f4 (by rw [rpk_len f5]; exact hz), q σ Z2 _ φ2 ((st1.trans st2).trans st3) e3 fun _ _ => rfl⟩
  | _ => cases q4
mutual
theorem sS : ∀ (ir : S) (s : Sc) (X : Cx) (st : Stmt), Gd M T G CL C n X s → mS T ir s st = true → PS X st (tS M s.fx (evS G CL W C ir))
  | .fail, s, X, st, g, h => fail_ok
  | .asg i e, s, X, st, g, h => by
    unfold mS at h
    split at h
    · rw [Bool.and_eq_true, Bool.and_eq_true] at h
      exact asg_ok g h.1.1 h.1.2 h.2
    · cases h
  | .unp is e, s, X, st, g, h => by
    unfold mS at h
    split at h
    · split at h
      · rw [Bool.and_eq_true, Bool.and_eq_true] at h
        exact par_ok g h.1.1 (sE _ s X _ g h.1.2).1 (sE _ s X _ g h.2).1
      · simp only [Bool.and_eq_true] at h
        exact unp_ok g h.1.1.1 h.1.1.2 h.1.2 (sE e s X _ g h.2).1
    · cases h
  | .setI i k e, s, X, st, g, h => by
    unfold mS at h
    split at h
    · simp only [Bool.and_eq_true] at h
      exact setI_stm g h.1.1.1.1 h.1.1.1.2 h.1.1.2 (sE k s X _ g h.1.2).1 (sE e s X _ g h.2).1
    · cases h
  | .mut m i es, s, X, st, g, h => by
    unfold mS at h
    split at h
    · simp only [Bool.and_eq_true, decide_eq_true_eq] at h
      obtain ⟨⟨⟨⟨h1, h2⟩, h3⟩, h4⟩, h5⟩ := h
      subst h1
      exact app_stm g h2 h3 h4 (sE _ s X _ g h5).1
    · simp only [Bool.and_eq_true, decide_eq_true_eq] at h
      obtain ⟨⟨h1, h2⟩, h3⟩ := h
      subst h1
      exact rev_stm g h2 h3
    · cases h
  | .aug i p e, s, X, st, g, h => by
    unfold mS at h
    split at h
    · simp only [Bool.and_eq_true, decide_eq_true_eq] at h
      exact aug_stm g h.1.1 h.1.2 (sE e s X _ g h.2).1
    · cases h
  | .expr e, s, X, st, g, h => by
    unfold mS at h
    split at h
    · rw [Bool.and_eq_true] at h
      exact expr_ok h.1 (sE e s X _ g h.2).1
    · cases h
  | .ret e, s, X, st, g, h => by
    unfold mS at h
    split at h
    · exact ret_ok (sE e s X _ g h).1
    · cases h
  | .retN, s, X, st, g, h => by
    unfold mS at h
    split at h
    · exact retN_ok
    · cases h
  | .pass, s, X, st, g, h => by
    unfold mS at h
    split at h
    · exact pass_ok
    · exact doc_ok h
    · cases h
  | .brk, s, X, st, g, h => by
    unfold mS at h
    split at h
    · exact brk_ok
    · cases h
  | .cont, s, X, st, g, h => by
    unfold mS at h
    split at h
    · exact cont_ok
    · cases h
  | .ite c a b, s, X, st, g, h => by
    unfold mS at h
    split at h
    · rw [Bool.and_eq_true, Bool.and_eq_true] at h
      exact if_ok (sE c s X _ g h.1.1).2 (sSs a s X _ g h.1.2) (sSs b s X _ g h.2)
    · cases h
  | .for tg k es body, s, X, st, g, h => by
    unfold mS at h
    split at h
    · simp only [Bool.and_eq_true] at h
      obtain ⟨⟨⟨h1, h2⟩, h3⟩, h4⟩ := h
      split at h1
      · rename_i xs hs
        exact for_ok g (it_ok g hs (sV es s X xs g h1)) h2 h3 (sSs body s X _ g h4)
      · cases h1
    · cases h
  | .while c body, s, X, st, g, h => by
    unfold mS at h
    split at h
    · rw [Bool.and_eq_true] at h
      exact while_ok g (sE c s X _ g h.1).2 (sSs body s X _ g h.2)
    · cases h
theorem sSs : ∀ (irs : List S) (s : Sc) (X : Cx) (sts : List Stmt), Gd M T G CL C n X s → mSs T irs s sts = true → PSs X sts (tS M s.fx (evSs G CL W C irs))
  | [], s, X, sts, g, h => by
    unfold mSs at h
    split at h
    · exact nil_ok
    · cases h
  | ir :: irs, s, X, sts, g, h => by
    unfold mSs at h
    split at h
    · cases h
    · rename_i st sts
      rw [Bool.or_eq_true] at h
      rcases h with h | h
      · split at h
        · exact failL_ok
        · cases h
      · rw [Bool.and_eq_true] at h
        exact cons_ok (sS ir s X st g h.1) (sSs irs s X sts g h.2)
end
end
end EV

namespace EV
open PyProof.Rows PySem L2 PySem.Spec
theorem getS_nones : ∀ (k i : Nat), getS (List.replicate k none) i = none
  | 0, _ => rfl
  | k + 1, 0 => rfl
  | k + 1, i + 1 => getS_nones k i
theorem getS_pad : ∀ (ρ : Env) (k i : Nat), getS (ρ ++ List.replicate k none) i = getS ρ i
  | [], k, i => getS_nones k i
  | x :: r, k, 0 => rfl
  | x :: r, k, i + 1 => getS_pad r k i
theorem headS_len : ∀ (ρ : Env) (n : Nat), (headS ρ n).length = n
  | _, 0 => by unfold headS; rfl
  | [], n + 1 => by unfold headS; simp [headS_len [] n]
  | x :: r, n + 1 => by unfold headS; simp [headS_len r n]
theorem headS_get : ∀ (ρ : Env) (n i : Nat) (o : O), getS (headS ρ n) i = some o → getS ρ i = some o
  | _, 0, _, _, h => by unfold headS at h; cases h
  | [], n + 1, 0, _, h => by unfold headS at h; cases h
  | [], n + 1, i + 1, o, h => by
    unfold headS at h
    have h : getS (headS [] n) i = some o := h
    have := headS_get [] n i o h
    cases this
  | x :: r, n + 1, 0, _, h => by unfold headS at h; exact h
  | x :: r, n + 1, i + 1, o, h => by
    unfold headS at h
    have h : getS (headS r n) i = some o := h
    exact headS_get r n i o h
theorem maskR_get : ∀ (bs : List Bool) (ps : Env) (i : Nat) (o : O), getS (maskR bs ps) i = some o → bs[i]? = some true ∧ getS ps i = some o
  | [], _, _, _, h => by unfold maskR at h; cases h
  | true :: bs, [], _, _, h => by unfold maskR at h; cases h
  | false :: bs, [], _, _, h => by unfold maskR at h; cases h
  | true :: bs, p :: ps, 0, _, h => by unfold maskR at h; exact ⟨rfl, h⟩
  | false :: bs, p :: ps, 0, _, h => by unfold maskR at h; cases h
  | true :: bs, p :: ps, i + 1, o, h => by
    unfold maskR at h
    have h : getS (maskR bs ps) i = some o := h
    have := maskR_get bs ps i o h
    exact ⟨by simpa using this.1, this.2⟩
  | false :: bs, p :: ps, i + 1, o, h => by
    unfold maskR at h
    have h : getS (maskR bs ps) i = some o := h
    have := maskR_get bs ps i o h
    exact ⟨by simpa using this.1, this.2⟩
theorem maskR_len : ∀ (bs : List Bool) (ps : Env), ps.length = bs.length → (maskR bs ps).length = bs.length
  | [], [], _ => rfl
  | [], _ :: _, h => by simp at h
  | _ :: _, [], h => by simp at h
  | true :: bs, p :: ps, h => by unfold maskR; simp [maskR_len bs ps (by simpa using h)]
  | false :: bs, p :: ps, h => by unfold maskR; simp [maskR_len bs ps (by simpa using h)]
/-- the parameters that are never assigned -/
def fxs : Nat → List Bool → List Nat
  | _, [] => []
  | i, true :: r => i :: fxs (i + 1) r
  | i, false :: r => fxs (i + 1) r
theorem fxs_mem : ∀ (bs : List Bool) (k i : Nat), bs[i]? = some true → k + i ∈ fxs k bs
  | [], _, _, h => by simp at h
  | true :: bs, k, 0, _ => by unfold fxs; simp
  | false :: bs, k, 0, h => by simp at h
  | true :: bs, k, i + 1, h => by
    unfold fxs
    have := fxs_mem bs (k + 1) i (by simpa using h)
    rw [show k + (i + 1) = k + 1 + i by omega]
    simp [this]
  | false :: bs, k, i + 1, h => by
    unfold fxs
    have := fxs_mem bs (k + 1) i (by simpa using h)
    rw [show k + (i + 1) = k + 1 + i by omega]
    exact this
theorem Stp.more {Z H Z' H' : Hp} {P P' R : Addr → Prop} (a : Stp Z H P Z' H' R) (h : ∀ x, P x → P' x) : Stp Z H P' Z' H' R :=
  ⟨a.zz, fun x o q n => a.ch x o q fun z => n (h x z), a.al, fun x q => (a.zn x q).imp_right (·.imp_left (h x)), fun x q => (a.ow x q).imp_left (h x)⟩
section
variable {M : Mt} {Z H : Hp} {φ : Nat → List Addr}
theorem EOk.start {N : Nat} {vs : List V} {os : List O} (hl : vs.length = os.length) (e : EOk M Z H (vs.map some) (os.map some) φ) : EOk M Z H (vs.map some ++ List.replicate (N - vs.length) none) (startS N os) φ := by
  unfold startS
  have hg : ∀ i o, getS (os.map some ++ List.replicate (N - os.length) none) i = some o → getS (os.map some) i = some o := fun i o h => by rw [getS_pad] at h; exact h
  refine ⟨e.sub, by simp [hl], fun i o h => ?_, fun a ⟨i, o, h, m⟩ => e.out a ⟨i, o, hg i o h, m⟩, fun i j o u a h1 h2 => e.dis i j o u a (hg i o h1) (hg j u h2)⟩
  obtain ⟨v, h1, h2⟩ := e.hold i o (hg i o h)
  refine ⟨v, ?_, h2⟩
  rw [List.getElem?_append_left (List.getElem?_eq_some_iff.mp h1).1]
  exact h1
theorem own_start {N : Nat} {os : List O} {a : Addr} (x : Own (startS N os) φ a) : Own (os.map some) φ a := by
  obtain ⟨i, o, h, m⟩ := x
  unfold startS at h
  rw [getS_pad] at h
  exact ⟨i, o, h, m⟩
theorem EOk.back {σ : L2.St} {ρ : Env} {refs : List Bool} {vs : List V} {k : Nat} (e : EOk M Z H σ ρ φ) (hl : vs.length = refs.length) (hx : ∀ i, i ∈ fxs 0 refs → σ[i]? = (vs.map some ++ List.replicate k none)[i]?) : EOk M Z H (vs.map some) (maskR refs (headS ρ refs.length)) φ := by
  have hg : ∀ i o, getS (maskR refs (headS ρ refs.length)) i = some o → refs[i]? = some true ∧ getS ρ i = some o := fun i o h => by
    obtain ⟨h1, h2⟩ := maskR_get _ _ _ _ h
    exact ⟨h1, headS_get _ _ _ _ h2⟩
  refine ⟨e.sub, by rw [maskR_len _ _ (headS_len _ _), List.length_map, hl], fun i o h => ?_, fun a ⟨i, o, h, m⟩ => e.out a ⟨i, o, (hg i o h).2, m⟩, fun i j o u a h1 h2 => e.dis i j o u a (hg i o h1).2 (hg j u h2).2⟩
  obtain ⟨h1, h2⟩ := hg i o h
  obtain ⟨v, g1, g2⟩ := e.hold i o h2
  refine ⟨v, ?_, g2⟩
  have hi : i < refs.length := (List.getElem?_eq_some_iff.mp h1).1
  have := hx i (by simpa using fxs_mem refs 0 i h1)
  rw [List.getElem?_append_left (by rw [List.length_map, hl]; exact hi)] at this
  rw [← this]
  exact g1
theorem own_back {ρ : Env} {refs : List Bool} {n : Nat} {a : Addr} (x : Own (maskR refs (headS ρ n)) φ a) : Own ρ φ a := by
  obtain ⟨i, o, h, m⟩ := x
  obtain ⟨h1, h2⟩ := maskR_get _ _ _ _ h
  exact ⟨i, o, headS_get _ _ _ _ h2, m⟩
end

/-! ### the defs -/
structure FnIn (M : Mt) (T : Stat) (B : Tab) (K : PySem.W.Frag) (mg : Str → Option Value) (f : Nat) (F : FnS) (fa : Addr) (fd : FuncData) : Prop where
  ex : ∃ (x qual : Str) (st : Stmt) (N : List Str) (body : List S), L2.Fun K x qual st fa fd ∧ FnScope N F.ps (defScope st) ∧ B.fns[f]? = some ⟨F.ps.length, N.length, if F.meth = true then some F.cls else none, body⟩ ∧ mSs T body ⟨N, defScope st, fun _ => true, fxs 0 F.refs⟩ (defBody st) = true
  bnd : ∀ us : List Value, us.length = F.ps.length → bindArgs fd ⟨us, []⟩ = pure (F.ps.zip us)
  rl : F.refs.length = F.ps.length
  mgf : F.meth = false → mg F.nm = some (.ref fa)
  mt : F.meth = true → Meth K (M.cl F.cls) F.nm fa
/-- self.f = f, .. -/
def initC (T : Stat) (self : Str) (sc : Scope) (N : List Str) : List Nat → List Str → List Stmt → Bool
  | [], [], [] => true
  | k :: ns, p :: ps, .Assign [.Attribute (.Name x _) f _] (.Name y _) _ :: r => decide (x = self) && decide (y = p) && decide (T.fnm[k]? = some f) && vis ⟨N, sc, fun _ => true, []⟩ 0 self && (match N.idxOf? p with | some i => vis ⟨N, sc, fun _ => true, []⟩ i p | none => false) && initC T self sc N ns ps r
  | _, _, _ => false
structure Wd (M : Mt) (T : Stat) (B : Tab) (K : PySem.W.Frag) (mg : Str → Option Value) : Prop where
  k : M.K = K
  glb : ∀ (g : Nat) (x : Str) (d : D), T.glb[g]? = some x → B.G[g]? = some d → ∃ u v, mg x = some u ∧ RelV v u ∧ Rp M (fun _ => none) d v
  blt : ∀ x ∈ bltNames, mg x = none
  fns : ∀ (f : Nat) (F : FnS), T.fns[f]? = some F → ∃ fa fd, FnIn M T B K mg f F fa fd
  cls : ∀ (c : Nat) (x : Str), T.cnm[c]? = some x → ClOk M T K c ∧ mg x = some (.ref (M.cl c))
  fcl : ∀ (f : Nat) (F : FnS), T.fns[f]? = some F → F.meth = true → ∃ x, T.cnm[F.cls]? = some x
  new : ∀ (c : Nat) (x : Str) (ns : List Nat), T.cnm[c]? = some x → B.CL[c]? = some ns → ∃ fi fd ps, Mk K (M.cl c) fi ∧ Binds K fd ps [] ∧ ∀ (P : Program) (w : World) (base : Heap) (k : Nat), FnOk P w K mg base CX0 (k + 1) fi fd ps (spNew M c ns)
  fnm : ∀ k, M.fn k = T.fnm.getD k Str.empty
  fnd : T.fnm.Nodup ∧ Str.empty ∉ T.fnm
  mnm : ∀ (f : Nat) (F : FnS), T.fns[f]? = some F → F.meth = true → F.nm ∉ T.fnm ∧ F.nm ≠ Str.empty
  nc : M.nc = T.cnm.length
section
variable {M : Mt} {T : Stat} {B : Tab} {P : Program} {w : World} {K : PySem.W.Frag} {mg : Str → Option Value} {base : Heap} {n : Nat}
def Lvl (M : Mt) (T : Stat) (B : Tab) (P : Program) (w : World) (K : PySem.W.Frag) (mg : Str → Option Value) (base : Heap) (n : Nat) : Prop :=
  ∀ (f : Nat) (F : FnS), T.fns[f]? = some F → ∀ fa fd, FnIn M T B K mg f F fa fd → FnOk P w K mg base CX0 (n + 2) fa fd F.ps (spF M (evF B n) f F.refs)
theorem evF_len : ∀ (n f : Nat) (F : Fn) (os : List O) (r : O) (ps : List (Option O)), B.fns[f]? = some F → evF B n f os = some (r, ps) → ps.length = F.np
  | 0, _, _, _, _, _, _, h => by cases h
  | n + 1, f, F, os, r, ps, hF, h => by
    unfold evF at h
    rw [hF] at h
    simp only at h
    split at h
    · split at h
      · cases h; exact headS_len _ _
      · cases h; exact headS_len _ _
      · cases h
    · cases h
theorem evF_self : ∀ (n f : Nat) (F : Fn) (os : List O) (p : O × List (Option O)), B.fns[f]? = some F → evF B n f os = some p → selfOk F.cl os = true
  | 0, _, _, _, _, _, h => by cases h
  | n + 1, f, F, os, p, hF, h => by
    unfold evF at h
    rw [hF] at h
    simp only at h
    split at h
    · rename_i hb
      rw [Bool.and_eq_true] at hb
      exact hb.2
    · cases h
theorem Wd.gd (W : Wd M T B K mg) (L : Lvl M T B P w K mg base n) {X : Cx} {s : Sc} (hP : X.prog = P) (hw : X.w = w) (hK : X.K = K) (hm : X.mg = mg) (hb : X.base = base) (calm : X.calm = true) (hN : X.N = s.N) (nd : X.N.Nodup) (sc : X.env.scope = s.sc) (fn : ∀ x, s.fnB x = true → X.fn x = true) (room : Room (n + 2) X.A) (xe : X.xe = fun _ _ => False) :
    Gd M T B.G B.CL (evF B n) (n + 2) X s := by
  subst hP hw hK hm hb
  refine ⟨W.k.symm, calm, hN, nd, sc, fn, room, xe, W.glb, W.blt, fun f F hF => ?_, fun f F os r ps hF h => ?_, fun f F c fs os r ps hF hm h => ?_, W.cls, W.fcl, fun c x ns h1 h2 => ?_, W.fnm, W.fnd, W.mnm, W.nc⟩
  · obtain ⟨fa, fd, I⟩ := W.fns f F hF
    obtain ⟨x, qual, st, N, body, hf, _⟩ := I.ex
    exact ⟨fa, fd, L f F hF fa fd I, .all I.bnd, hf.kp, I.mgf, I.mt⟩
  · obtain ⟨fa, fd, I⟩ := W.fns f F hF
    obtain ⟨x, qual, st, N, body, hf, _, hB, _⟩ := I.ex
    rw [evF_len n f _ os r ps hB h, I.rl]
  · obtain ⟨fa, fd, I⟩ := W.fns f F hF
    obtain ⟨x, qual, st, N, body, hf, _, hB, _⟩ := I.ex
    have := evF_self n f _ _ _ hB h
    simpa [hm, selfOk] using this
  · obtain ⟨fi, fd, ps, mk, bi, ok⟩ := W.new c x ns h1 h2
    exact ⟨fi, fd, ps, n + 1, rfl, mk, bi, ok _ _ _ n⟩
theorem lvl (W : Wd M T B K mg) : ∀ n, Lvl M T B P w K mg base n
  | 0 => fun f F hF fa fd I => by
    have no : ∀ vs H Q E, ¬ spF M (evF B 0) f F.refs vs H Q E := fun vs H Q E ⟨_, _, _, _, _, _, _, h, _⟩ => by cases h
    exact ⟨fun vs H Q E h => absurd h (no _ _ _ _), fun A outer s H args us vs Q E _ _ _ _ h => absurd h (no _ _ _ _)⟩
  | n + 1 => fun f F hF fa fd I => by
    obtain ⟨x, qual, st, N, body, hf, hS, hB, hm⟩ := I.ex
    refine hf.ok hS (fun vs H Q E ⟨Z, os, φ, r, ps, h1, _⟩ => by rw [h1, I.rl]) fun cdv A outer s H vs Q E hr hsp => ?_
    obtain ⟨Z, os, φ, r, ps, h1, e, h2, h3, q⟩ := hsp
    have g : Gd M T B.G B.CL (evF B n) (n + 2) (cxOf CX0 P w K mg base N qual (defScope st) fa cdv A outer s H E).nox ⟨N, defScope st, fun _ => true, fxs 0 F.refs⟩ :=
      W.gd (lvl W n) rfl rfl rfl rfl rfl rfl rfl hS.nd rfl (fun _ _ => rfl) hr rfl
    refine ⟨_, sSs (W := B.W) body _ _ _ g hm, ?_⟩
    have hl : vs.length = os.length := by have := e.len; simpa using this
    unfold evF at h2
    rw [hB] at h2
    simp only at h2
    split at h2
    · split at h2
      · rename_i o ρ hb
        cases h2
        refine ⟨Z, startS N.length os, φ, .rt _, ρ, e.start hl, hb, fun v σ' Z' H' φ' fr st' e' r' hfr hx => ?_⟩
        refine q v Z' H' φ' fr ((st'.more fun a => own_start).less fun a z => z.imp_left own_back) ?_ r' fun a ha => ⟨(hfr a ha).1, fun z => (hfr a ha).2 (own_back z)⟩
        rw [← I.rl]
        exact e'.back h1 hx
      · rename_i ρ hb
        cases h2
        refine ⟨Z, startS N.length os, φ, .nx, ρ, e.start hl, hb, fun σ' Z' H' φ' st' e' hx => ?_⟩
        refine q .non Z' H' φ' [] ((st'.more fun a => own_start).less fun a z => z.elim own_back fun z => by cases z) ?_ ⟨rfl, rfl⟩ fun a ha => absurd ha (by simp)
        rw [← I.rl]
        exact e'.back h1 hx
      · cases h2
    · cases h2
end
end EV

namespace EV
open PyProof.Rows PySem L2 PySem.Spec
theorem upd_upd {H : Hp} {a : Addr} {x y : HO} : L2.upd (L2.upd H a x) a y = L2.upd H a y := by
  funext b
  by_cases h : b = a
  · subst h; rw [upd_same, upd_same]
  · rw [upd_ne h, upd_ne h, upd_ne h]
theorem putF_new {f : Str} {v : V} : ∀ {fs : List (Str × V)}, f ∉ fs.map (·.1) → putF f v fs = fs ++ [(f, v)]
  | [], _ => rfl
  | (g, x) :: r, h => by
    simp only [List.map_cons, List.mem_cons, not_or] at h
    unfold putF
    rw [if_neg (fun z => h.1 z.symm), putF_new h.2]
    rfl
/-- self.f = f, .. (i: the slot of the next one) -/
def initB (T : Stat) (self : Str) (s : Sc) : Nat → List Nat → List Stmt → Bool
  | _, [], [] => true
  | i, k :: ns, .Assign [.Attribute (.Name x _) f _] (.Name y _) _ :: r => decide (x = self) && vis s 0 x && vis s i y && decide (T.fnm[k]? = some f) && initB T self s (i + 1) ns r
  | _, _, _ => false
section
variable {M : Mt} {T : Stat} {B : Tab} {P : Program} {w : World} {K : PySem.W.Frag} {mg : Str → Option Value} {base : Heap} {c : Nat}
def Slo (σ : L2.St) : Nat → List V → Prop
  | _, [] => True
  | i, u :: us => σ[i]? = some (some u) ∧ Slo σ (i + 1) us
theorem slo_of (σ : L2.St) : ∀ (us : List V) (i : Nat), (∀ j u, us[j]? = some u → σ[i + j]? = some (some u)) → Slo σ i us
  | [], _, _ => True.intro
  | u :: us, i, h => ⟨h 0 u rfl, slo_of σ us (i + 1) fun j v hj => by
    have := h (j + 1) v (by simpa using hj)
    rw [show i + 1 + j = i + (j + 1) by omega]
    exact this⟩
theorem vis_pe {X : Cx} {s : Sc} {i : Nat} {x : Str} {pos : Pos} (hN : X.N = s.N) (sc : X.env.scope = s.sc) (h : vis s i x = true) : PE X (.Name x pos) (tVar i) := by
  unfold EV.vis at h
  simp only [Bool.and_eq_true, decide_eq_true_eq] at h
  obtain ⟨⟨h1, h2⟩, h3⟩ := h
  obtain ⟨d1, d2, d3⟩ := okName_d h2
  refine pe_var (by rw [hN]; exact h1) ?_ d1 d2
  unfold Vis
  rw [sc]
  split at h3 <;> first | exact .inl (by assumption) | exact .inr (.inl (by assumption)) | exact .inr (.inr (by assumption)) | cases h3
def tInit (C : Addr) (i : Nat) (fs' : List Str) : TS := fun D σ H => ∃ a dx fs us, σ[0]? = some (some (.ref a)) ∧ H a = some (.ins C dx fs) ∧ us.length = fs'.length ∧ Slo σ i us ∧ (∀ f ∈ fs', f ∉ fs.map (·.1)) ∧ fs'.Nodup ∧ fs.length + fs'.length < 1000 ∧ D.nx σ (L2.upd H a (.ins C dx (fs ++ fs'.zip us)))
theorem init_body (cl : ClOk M T K c) (hfn : ∀ k, M.fn k = T.fnm.getD k Str.empty) {X : Cx} {s : Sc} {self : Str} (hK : X.K = K) (hN : X.N = s.N) (sc : X.env.scope = s.sc) : ∀ (ns : List Nat) (i : Nat) (r : List Stmt), initB T self s i ns r = true → PSs X r (tInit (M.cl c) i (ns.map M.fn))
  | [], i, [], _ => PSs.weak pss_nil fun D σ H ⟨a, dx, fs, us, h1, h2, h3, h4, h5, h6, h7, q⟩ => by
    have : us = [] := by cases us with | nil => rfl | cons _ _ => simp at h3
    subst this
    have e : L2.upd H a (.ins (M.cl c) dx fs) = H := by
      funext b
      by_cases hb : b = a
      · subst hb; rw [upd_same, h2]
      · rw [upd_ne hb]
    simp only [List.map_nil, List.zip_nil_left, List.append_nil] at q
    rw [e] at q
    exact q
  | [], i, _ :: _, h => by unfold initB at h; cases h
  | k :: ns, i, r0, h => by
    unfold initB at h
    split at h
    · rename_i e; cases e
    · rename_i k' ns' x p1 f p2 y p3 p4 r e
      cases e
      simp only [Bool.and_eq_true, decide_eq_true_eq] at h
      obtain ⟨⟨⟨⟨h1, h2⟩, h3⟩, h4⟩, h5⟩ := h
      have hf : M.fn k = f := by rw [hfn, List.getD_eq_getElem?_getD, h4]; rfl
      have hfm : f ∈ T.fnm := (List.mem_of_getElem? h4)
      have st := ps_fld (pos := p4) (pos' := p2) (f := f) (vis_pe (pos := p1) hN sc h2) (vis_pe (pos := p3) hN sc h3) rfl
      refine PSs.weak (pss_cons st (init_body cl hfn hK hN sc ns _ r h5)) fun D σ H ⟨a, dx, fs, us, g1, g2, g3, g4, g5, g6, g7, q⟩ => ?_
      match us, g3, g4, q with
      | u :: us, g3, g4, q =>
        rw [hK]
        simp only [List.map_cons, List.nodup_cons] at g6
        refine ⟨u, g4.1, .ref a, g1, a, M.cl c, dx, fs, rfl, g2, cl.cls, cl.attr f hfm, by simp at g7; omega, ?_⟩
        have hnf : f ∉ fs.map (·.1) := by rw [← hf]; exact g5 _ (by simp)
        rw [putF_new hnf]
        refine ⟨a, dx, fs ++ [(f, u)], us, g1, upd_same, by simpa using g3, g4.2, fun f' hf' => ?_, g6.2, by simp at g7 ⊢; omega, ?_⟩
        · simp only [List.map_append, List.mem_append, not_or, List.map_cons, List.map_nil, List.mem_singleton]
          refine ⟨g5 f' (by simp; exact .inr (by simpa using hf')), fun z => g6.1 ?_⟩
          rw [hf, ← z]
          exact hf'
        · rw [upd_upd, List.append_assoc]
          rw [← hf]
          exact q
      | [], g3, _, _ => simp at g3
    · cases h
theorem init_ok {x qual : Str} {st : Stmt} {fi : Addr} {fd : FuncData} {N ps : List Str} {self : Str} {ns : List Nat} {k : Nat} (F : L2.Fun K x qual st fi fd) (S : FnScope N (self :: ps) (defScope st)) (cl : ClOk M T K c) (hfn : ∀ k, M.fn k = T.fnm.getD k Str.empty)
    (hl : ps.length = ns.length) (hnd : (ns.map fun k => T.fnm.getD k Str.empty).Nodup) (hsm : ns.length < 1000) (hb : initB T self ⟨N, defScope st, fun _ => true, []⟩ 1 ns (defBody st) = true) : FnOk P w K mg base CX0 (k + 1) fi fd (self :: ps) (spNew M c ns) := by
  refine F.ok S (fun vs H Q E ⟨a, dx, us, h1, h2, _⟩ => by subst h1; simp [h2, hl]) fun cdv A outer s H vs Q E hr hsp => ?_
  obtain ⟨a, dx, us, rfl, h2, h3, q⟩ := hsp
  refine ⟨_, init_body (X := (cxOf CX0 P w K mg base N qual (defScope st) fi cdv A outer s H E).nox) (s := ⟨N, defScope st, fun _ => true, []⟩) cl hfn rfl rfl rfl ns 1 (defBody st) hb, ?_⟩
  have hne : M.fn = fun k => T.fnm.getD k Str.empty := funext hfn
  refine ⟨a, dx, [], us, rfl, h3, by simpa using h2, slo_of _ us 1 fun j u hj => ?_, fun f _ => by simp, by rw [hne]; exact hnd, by simpa using hsm, ?_⟩
  · unfold L2.start
    rw [List.getElem?_append_left (by have := (List.getElem?_eq_some_iff.mp hj).1; simp; omega)]
    rw [List.getElem?_map, show 1 + j = j + 1 by omega, List.getElem?_cons_succ, hj]
    rfl
  · simpa using q
/-- a look at a def's scope -/
def fsB (N ps : List Str) (sc : Scope) : Bool :=
  (match sc.kind with | .function => true | _ => false) && !sc.isCoroutine && !sc.isGenerator && decide N.Nodup && decide (N.take ps.length = ps) && ps.all (fun x => match sc.names.lookup x with | some .local => true | some .cell => true | _ => false) && sc.names.all (fun y => match y.2 with | .free => false | _ => true)
theorem fs_of {N ps : List Str} {sc : Scope} (h : fsB N ps sc = true) : FnScope N ps sc := by
  unfold fsB at h
  simp only [Bool.and_eq_true, Bool.not_eq_true', decide_eq_true_eq, List.all_eq_true] at h
  obtain ⟨⟨⟨⟨⟨⟨h1, h2⟩, h3⟩, h4⟩, h5⟩, h6⟩, h7⟩ := h
  refine ⟨?_, h2, h3, h4, h5, fun x hx => ?_, fun y hy z => ?_⟩
  · split at h1
    · assumption
    · cases h1
  · have := h6 x hx
    split at this
    · exact .inl (by assumption)
    · exact .inr (by assumption)
    · cases this
  · have := h7 y hy
    rw [z] at this
    cases this
/-- all that a def's text must be -/
def fnB (T : Stat) (B : Tab) (f : Nat) (F : FnS) (N : List Str) (body : List S) (st : Stmt) : Bool :=
  fsB N F.ps (defScope st) && decide (F.refs.length = F.ps.length) && mSs T body ⟨N, defScope st, fun _ => true, fxs 0 F.refs⟩ (defBody st)
theorem fn_in {f : Nat} {F : FnS} {x qual : Str} {st : Stmt} {fa : Addr} {fd : FuncData} {N : List Str} {body : List S} (hf : L2.Fun K x qual st fa fd) (hB : B.fns[f]? = some ⟨F.ps.length, N.length, if F.meth = true then some F.cls else none, body⟩) (h : fnB T B f F N body st = true)
    (bnd : ∀ us : List Value, us.length = F.ps.length → bindArgs fd ⟨us, []⟩ = pure (F.ps.zip us)) (mgf : F.meth = false → mg F.nm = some (.ref fa)) (mt : F.meth = true → Meth K (M.cl F.cls) F.nm fa) : FnIn M T B K mg f F fa fd := by
  unfold fnB at h
  simp only [Bool.and_eq_true, decide_eq_true_eq] at h
  exact ⟨⟨x, qual, st, N, body, hf, fs_of h.1.1, hB, h.2⟩, bnd, h.1.2, mgf, mt⟩
/-- the law's promise -/
def spLaw (K : PySem.W.Frag) : Sp := fun vs H Q _ => ∃ (a : Addr) (ns : List Int), vs = [.ref a] ∧ SqL K H a (ns.map V.int) ∧ ns.length ≤ 63 ∧ ∀ H', Q (.bl true) H'
theorem rpa_ints {Z : Hp} : ∀ (ns : List Int), RpA M Z (ns.map .int) (ns.map V.int)
  | [] => rfl
  | n :: ns => ⟨_, _, rfl, rfl, rpa_ints ns⟩
theorem law_ok (W : Wd M T B K mg) {f n : Nat} {F : FnS} {fa : Addr} {fd : FuncData} (hF : T.fns[f]? = some F) (I : FnIn M T B K mg f F fa fd) (hr : F.refs = [false])
    (law : ∀ ns : List Int, ns.length ≤ 63 → ∃ ps, evF B n f [.val (.lst (ns.map .int))] = some (.val (.bl true), ps)) : FnOk P w K mg base CX0 (n + 2) fa fd F.ps (spLaw K) := by
  refine (lvl W n f F hF fa fd I).imp fun vs H Q E ⟨a, ns, h1, h2, h3, q⟩ => ?_
  subst h1
  obtain ⟨ps, hp⟩ := law ns h3
  have hl : ps.length = F.refs.length := by
    obtain ⟨x, qual, st, N, body, hf, _, hB, _⟩ := I.ex
    rw [evF_len n f _ _ _ ps hB hp, I.rl]
  refine ⟨H, [.val (.lst (ns.map .int))], fun _ => [], _, ps, by rw [hr]; rfl, ⟨.refl _, rfl, fun i o hi => ?_, fun b ⟨_, _, _, m⟩ => (by cases m), fun i j o u b _ _ m => (by cases m)⟩, hp, hl, fun v Z' H' φ' fr _ _ r _ => ?_⟩
  · match i, hi with
    | 0, hi =>
      cases hi
      exact ⟨.ref a, rfl, rfl, a, _, rfl, by rw [W.k]; exact h2, rpa_ints ns⟩
  · obtain ⟨_, r⟩ := r
    have r : v = .bl true := r
    subst r
    exact q H'
end
end EV
namespace EV
open PyProof.Rows PySem L2 PySem.Spec
theorem fcl_of {T : Stat} (h : (T.fns.all fun F => !F.meth || decide (F.cls < T.cnm.length)) = true) : ∀ (f : Nat) (F : FnS), T.fns[f]? = some F → F.meth = true → ∃ x, T.cnm[F.cls]? = some x := fun f F hF hm => by
  have := List.all_eq_true.mp h F (List.mem_of_getElem? hF)
  rw [hm] at this
  have : F.cls < T.cnm.length := by simpa using this
  exact ⟨_, List.getElem?_eq_getElem this⟩
theorem mnm_of {T : Stat} (h : (T.fns.all fun F => !F.meth || (!T.fnm.contains F.nm && F.nm != Str.empty)) = true) : ∀ (f : Nat) (F : FnS), T.fns[f]? = some F → F.meth = true → F.nm ∉ T.fnm ∧ F.nm ≠ Str.empty := fun f F hF hm => by
  have := List.all_eq_true.mp h F (List.mem_of_getElem? hF)
  rw [hm] at this
  simpa using this
theorem new_of {M : Mt} {T : Stat} {K : PySem.W.Frag} {mg : Str → Option Value} {c : Nat} {x qual : Str} {st : Stmt} {fi : Addr} {fd : FuncData} {N ps : List Str} {self : Str} {ns : List Nat} (mk : Mk K (M.cl c) fi) (F : L2.Fun K x qual st fi fd) (cl : ClOk M T K c) (hk : M.K = K) (hfn : ∀ k, M.fn k = T.fnm.getD k Str.empty)
    (hl : ps.length = ns.length) (hnd : (ns.map fun k => T.fnm.getD k Str.empty).Nodup) (hsm : ns.length < 1000) (hb : (fsB N (self :: ps) (defScope st) && initB T self ⟨N, defScope st, fun _ => true, []⟩ 1 ns (defBody st)) = true)
    (bnd : ∀ us : List Value, us.length = (self :: ps).length → bindArgs fd ⟨us, []⟩ = pure ((self :: ps).zip us)) :
    ∃ fi fd ps, Mk K (M.cl c) fi ∧ Binds K fd ps [] ∧ ∀ (P : Program) (w : World) (base : Heap) (k : Nat), FnOk P w K mg base CX0 (k + 1) fi fd ps (spNew M c ns) := by
  rw [Bool.and_eq_true] at hb
  exact ⟨fi, fd, self :: ps, mk, .all bnd, fun P w base k => init_ok F (fs_of hb.1) cl hfn hl hnd hsm hb.2⟩
end EV

namespace EV
open PyProof.Rows PySem L2 PySem.Spec
/-! ### the run by rules -/
def isRf : E → Bool
  | .rf _ => true
  | _ => false
def isBw : E → Bool
  | .bw _ => true
  | _ => false
def flK (fl : Flow) (x : Option (Flow × Env)) (y : Env) : Option (Flow × Env) := match fl with
  | .nx => x
  | f => some (f, y)
section
variable {G : List D} {CL : List (List Nat)} {W : Nat} {C : CallF} {ρ ρ' ρ0 ρ1 ρ2 ρ3 : Env} {o o0 o1 : O} {d : D} {ds : List D} {b m : Bool} {i : Nat} {es : List E} {p : Pr} {e a c x y : E} {r : Option (O × Env)}
theorem cond_t {α : Type} {x y r : α} {b : Bool} (h : b = true) (k : x = r) : cond b x y = r := by subst h; exact k
theorem cond_f {α : Type} {x y r : α} {b : Bool} (h : b = false) (k : y = r) : cond b x y = r := by subst h; exact k
theorem r_lit : ev G CL C (.lit d) false ρ = some (.val d, ρ) := rfl
theorem t_lit (t : truth d = some b) : ev G CL C (.lit d) true ρ = some (.val (.bl b), ρ) := by unfold ev; simp [post, O.frz, t]
theorem r_var (h : getS ρ i = some (.val d)) : ev G CL C (.var i) false ρ = some (.val d, ρ) := by unfold ev; rw [h]; rfl
theorem t_var (h : getS ρ i = some (.val d)) (t : truth d = some b) : ev G CL C (.var i) true ρ = some (.val (.bl b), ρ) := by unfold ev; rw [h]; simp [post, O.frz, t]
theorem t_bw (h : getS ρ i = some o) (t : truth o.frz = some b) : ev G CL C (.bw i) true ρ = some (.val (.bl b), ρ) := by unfold ev; simp only; rw [h]; simp [post, t]
theorem r_bw (h : getS ρ i = some (.val d)) : ev G CL C (.bw i) false ρ = some (.val d, ρ) := by unfold ev; simp only; rw [h]
theorem r_mv (h : getS ρ i = some o) : ev G CL C (.mv i) false ρ = some (o, setS ρ i none) := by unfold ev; rw [h]; rfl
theorem r_sh (h : getS ρ i = some o) : ev G CL C (.sh i) false ρ = some (.val o.frz, setS ρ i (some (.val o.frz))) := by unfold ev; rw [h]; rfl
theorem r_glob (h : G[i]? = some d) : ev G CL C (.glob i) false ρ = some (.val d, ρ) := by unfold ev; rw [h]; rfl
theorem r_op (h : evO G CL C es ρ = some (ds, ρ')) (p1 : prim p ds = some o) : ev G CL C (.op p es) false ρ = some (o, ρ') := by unfold ev; rw [h]; simp only; rw [p1]; rfl
theorem t_op (h : evO G CL C es ρ = some (ds, ρ')) (p1 : prim p ds = some o) (t : truth o.frz = some b) : ev G CL C (.op p es) true ρ = some (.val (.bl b), ρ') := by unfold ev; rw [h]; simp only; rw [p1]; simp [post, t]
theorem r_mop (hb : isBw e = false) (h0 : ev G CL C e false ρ = some (o0, ρ1)) (hr : rcv p o0.frz = true) (h : evO G CL C es ρ1 = some (ds, ρ')) (p1 : prim p (o0.frz :: ds) = some o) : ev G CL C (.mop p e es) false ρ = some (o, ρ') := by
  unfold ev
  cases e <;> first | (cases hb; done) | (simp only; rw [h0]; simp only; rw [hr]; simp only; rw [h]; simp only; rw [p1]; rfl)
theorem r_mopB (h0 : getS ρ i = some o0) (hr : rcv p o0.frz = true) (h : evO G CL C es ρ = some (ds, ρ')) (h1 : getS ρ' i = some o1) (p1 : prim p (o1.frz :: ds) = some o) : ev G CL C (.mop p (.bw i) es) false ρ = some (o, ρ') := by
  unfold ev
  simp only
  rw [h0]; simp only; rw [hr]; simp only; rw [h]; simp only; rw [h1]; simp only; rw [p1]; rfl
theorem t_mop (h : ev G CL C (.mop p e es) false ρ = some (o, ρ')) (t : truth o.frz = some b) : ev G CL C (.mop p e es) true ρ = some (.val (.bl b), ρ') := by
  revert h
  unfold ev
  cases e <;> (simp only; intro h; repeat' split at h) <;> simp_all [post]
theorem r_tup (h : evV G CL C es ρ = some (ds, ρ')) (z : ds.length ≤ sizeLine) : ev G CL C (.tup es) false ρ = some (.val (.tup ds), ρ') := by unfold ev; rw [h]; simp only; rw [if_pos z]; rfl
theorem r_lst (h : evV G CL C es ρ = some (ds, ρ')) (z : ds.length ≤ sizeLine) : ev G CL C (.lst es) false ρ = some (.lst ds, ρ') := by unfold ev; rw [h]; simp only; rw [if_pos z]; rfl
theorem r_dct : ev G CL C (.dct0 false) false ρ = some (.dctK [], ρ) := rfl
theorem r_and (h : ev G CL C a m ρ = some (o, ρ')) (t : o.frz = .bl b) (k : cond b (ev G CL C x m ρ') (some (.val (.bl false), ρ')) = r) : ev G CL C (.and a x) m ρ = r := by unfold ev; rw [h]; simp only [t]; rw [← k]; cases b <;> rfl
theorem r_or (h : ev G CL C a m ρ = some (o, ρ')) (t : o.frz = .bl b) (k : cond b (some (.val (.bl true), ρ')) (ev G CL C x m ρ') = r) : ev G CL C (.or a x) m ρ = r := by unfold ev; rw [h]; simp only [t]; rw [← k]; cases b <;> rfl
theorem r_not (h : ev G CL C a m ρ = some (o, ρ')) (t : o.frz = .bl b) : ev G CL C (.not a) m ρ = some (.val (.bl !b), ρ') := by unfold ev; rw [h]; simp only [t]
theorem r_ite (h : ev G CL C c true ρ = some (o, ρ')) (t : o.frz = .bl b) (k : cond b (ev G CL C x false ρ') (ev G CL C y false ρ') = r) : ev G CL C (.ite c x y) false ρ = r := by unfold ev; simp only; rw [h]; simp only [t]; rw [← k]; cases b <;> rfl
theorem r_cmp2 {q : Pr} {z : E} {d1 d2 : D} (h1 : ev G CL C x false ρ = some (o0, ρ1)) (h2 : ev G CL C y false ρ1 = some (o1, ρ2)) (p1 : prim p [o0.frz, o1.frz] = some (.val (.bl b)))
    (k : cond b (match ev G CL C z false ρ2 with | none => none | some (w, ρ3) => match prim q [o1.frz, w.frz] with | some (.val (.bl b)) => some (.val (.bl b), ρ3) | _ => none) (some (.val (.bl false), ρ2)) = r) : ev G CL C (.cmp2 p q x y z) m ρ = r := by
  unfold ev; rw [h1]; simp only; rw [h2]; simp only; rw [p1]; rw [← k]; cases b <;> rfl
theorem r_cmp2z {q : Pr} {z : E} {w : O} (h : ev G CL C z false ρ = some (w, ρ')) (p1 : prim q [d, w.frz] = some (.val (.bl b))) : (match ev G CL C z false ρ with | none => none | some (w, ρ3) => match prim q [d, w.frz] with | some (.val (.bl b)) => some (O.val (.bl b), ρ3) | _ => none) = some (.val (.bl b), ρ') := by rw [h]; simp only; rw [p1]
theorem r_call {f : Nat} {os : List O} {ps : List (Option O)} (h : evA G CL C es ρ = some (ds, ρ1)) (h2 : takeA es ds ρ1 = some (os, ρ2)) (h3 : C f os = some (o, ps)) : ev G CL C (.call f es) false ρ = some (o, giveA es ps ρ2) := by
  unfold ev; rw [h]; simp only; rw [h2]; simp only; rw [h3]; rfl
theorem t_call {f : Nat} (h : ev G CL C (.call f es) false ρ = some (o, ρ')) (t : truth o.frz = some b) : ev G CL C (.call f es) true ρ = some (.val (.bl b), ρ') := by
  revert h; unfold ev; intro h; repeat' split at h
  all_goals simp_all [post]
theorem r_meth {f cl : Nat} {fs : List (Nat × D)} {os : List O} {ps : List (Option O)} (h0 : ev G CL C e false ρ = some (.val (.ins cl fs), ρ0)) (h : evA G CL C es ρ0 = some (ds, ρ1)) (h2 : takeA es ds ρ1 = some (os, ρ2)) (h3 : C f (.val (.ins cl fs) :: os) = some (o, ps)) :
    ev G CL C (.meth f e es) false ρ = some (o, giveA es ps.tail ρ2) := by
  unfold ev; rw [h0]; simp only; rw [h]; simp only; rw [h2]; simp only; rw [h3]; rfl
theorem t_meth {f : Nat} (h : ev G CL C (.meth f e es) false ρ = some (o, ρ')) (t : truth o.frz = some b) : ev G CL C (.meth f e es) true ρ = some (.val (.bl b), ρ') := by
  revert h; unfold ev; intro h; repeat' split at h
  all_goals simp_all [post]
theorem r_new {c : Nat} {ns : List Nat} (h : evV G CL C es ρ = some (ds, ρ')) (h2 : CL[c]? = some ns) (h3 : ns.length = ds.length) : ev G CL C (.new c es) false ρ = some (.val (.ins c (ns.zip ds)), ρ') := by
  unfold ev; rw [h]; simp only; rw [h2]; simp [h3]
theorem r_frz (h : ev G CL C e false ρ = some (o, ρ')) : ev G CL C (.frz e) false ρ = some (.val o.frz, ρ') := by unfold ev; rw [h]; rfl
theorem r_pop {xs : List D} (h : getS ρ i = some (.lst xs)) (h2 : xs.getLast? = some d) : ev G CL C (.pop i) false ρ = some (.val d, setS ρ i (some (.lst xs.dropLast))) := by unfold ev; rw [h]; simp only; rw [h2]; rfl
theorem r_popAt {xs ys : List D} {k : Int} {j : Nat} (h0 : getS ρ i = some (.lst ys)) (h : ev G CL C e false ρ = some (o, ρ')) (hk : o.frz = .int k) (h1 : getS ρ' i = some (.lst xs)) (hj : ixN xs.length k = some j) (hd : xs[j]? = some d) (hz : -(2 ^ 63) ≤ k ∧ k < 2 ^ 63) : ev G CL C (.popAt i e) false ρ = some (.val d, setS ρ' i (some (.lst (xs.eraseIdx j)))) := by
  unfold ev; rw [h0]; simp only; rw [h]; simp only; rw [hk, h1]; simp only; rw [hj]; simp only; rw [hd]; simp only; rw [if_pos hz]; rfl
def cStep (G : List D) (CL : List (List Nat)) (C : CallF) (tg : Tg) (cs : List E) (e : E) (x : D) (ρ2 : Env) : Option (Option D × Env) := match bindT tg x ρ2 with
  | none => none
  | some ρ3 => match evC G CL C cs ρ3 with
    | none => none
    | some (false, ρ4) => some (none, wipeS ρ4 tg.slots)
    | some (true, ρ4) => match ev G CL C e false ρ4 with
      | none => none
      | some (o, ρ5) => some (some o.frz, wipeS ρ5 tg.slots)
theorem r_comp {tg : Tg} {k : ItK} {cs : List E} {xs ds' : List D} {ρ6 : Env} (h : evV G CL C es ρ = some (ds, ρ1)) (h2 : iterD k ds = some xs) (h3 : plainS ρ1 tg.slots = true) (h4 : compGo (cStep G CL C tg cs e) xs (wipeS ρ1 tg.slots) = some (ds', ρ6)) (h5 : ds'.length ≤ sizeLine) :
    ev G CL C (.comp tg k es cs e) false ρ = some (.lst ds', backS ρ1 ρ6 tg.slots) := by
  unfold ev; rw [h]; simp only; rw [h2]; simp only; rw [h3]; simp only
  change (match compGo (cStep G CL C tg cs e) xs (wipeS ρ1 tg.slots) with | none => none | some (ds, ρ6) => if ds.length ≤ sizeLine then post false (.lst ds) (backS ρ1 ρ6 tg.slots) else none) = _
  rw [h4]; simp only; rw [if_pos h5]; rfl
theorem cs_0 {tg : Tg} (h1 : bindT tg d ρ = some ρ1) (h2 : ev G CL C e false ρ1 = some (o, ρ2)) : cStep G CL C tg [] e d ρ = some (some o.frz, wipeS ρ2 tg.slots) := by
  unfold cStep; rw [h1]; simp only [evC]; rw [h2]
theorem cs_0e {tg : Tg} {d' : D} (h1 : bindT tg d ρ = some ρ1) (h2 : ev G CL C e false ρ1 = some (o, ρ2)) (hd : o.frz = d') (hw : wipeS ρ2 tg.slots = ρ') : cStep G CL C tg [] e d ρ = some (some d', ρ') := by
  subst hd hw
  exact cs_0 h1 h2
theorem cs_1 {tg : Tg} {R : Option (Option D × Env)} (h1 : bindT tg d ρ = some ρ1) (h2 : ev G CL C c true ρ1 = some (.val (.bl b), ρ2)) (k : cond b (match ev G CL C e false ρ2 with | none => none | some (o, ρ5) => some (some o.frz, wipeS ρ5 tg.slots)) (some (none, wipeS ρ2 tg.slots)) = R) : cStep G CL C tg [c] e d ρ = R := by
  unfold cStep; rw [h1]; simp only [evC]; rw [h2]; rw [← k]; cases b <;> rfl
theorem cs_1e {tg : Tg} (h : ev G CL C e false ρ = some (o, ρ')) : (match ev G CL C e false ρ with | none => none | some (o, ρ5) => some (some o.frz, wipeS ρ5 tg.slots)) = some (some o.frz, wipeS ρ' tg.slots) := by rw [h]
theorem cg_nil {step : D → Env → Option (Option D × Env)} : compGo step [] ρ = some ([], ρ) := rfl
theorem cg_cons {step : D → Env → Option (Option D × Env)} {x : D} {xs : List D} {od : Option D} (h : step x ρ = some (od, ρ1)) (k : compGo step xs ρ1 = some (ds, ρ2)) : compGo step (x :: xs) ρ = some (od.toList ++ ds, ρ2) := by unfold compGo; rw [h]; simp only; rw [k]
theorem o_nil : evO G CL C [] ρ = some ([], ρ) := rfl
theorem o_bw (h : getS ρ i = some o0) (k : evO G CL C es ρ = some (ds, ρ')) (h' : getS ρ' i = some o) : evO G CL C (.bw i :: es) ρ = some (o.frz :: ds, ρ') := by unfold evO; simp only; rw [h]; simp only; rw [k]; simp only; rw [h']
theorem o_cons (hb : isBw e = false) (h : ev G CL C e false ρ = some (o, ρ1)) (k : evO G CL C es ρ1 = some (ds, ρ')) : evO G CL C (e :: es) ρ = some (o.frz :: ds, ρ') := by
  unfold evO; cases e <;> first | (cases hb; done) | (simp only; rw [h]; simp only; rw [k])
theorem v_nil : evV G CL C [] ρ = some ([], ρ) := rfl
theorem v_cons (h : ev G CL C e false ρ = some (o, ρ1)) (k : evV G CL C es ρ1 = some (ds, ρ')) : evV G CL C (e :: es) ρ = some (o.frz :: ds, ρ') := by unfold evV; rw [h]; simp only; rw [k]
theorem a_nil : evA G CL C [] ρ = some ([], ρ) := rfl
theorem a_rf (h : getS ρ i = some o) (k : evA G CL C es ρ = some (ds, ρ')) : evA G CL C (.rf i :: es) ρ = some (.non :: ds, ρ') := by unfold evA; simp only; rw [h]; simp only; rw [k]
theorem a_cons (hb : isRf e = false) (h : ev G CL C e false ρ = some (o, ρ1)) (k : evA G CL C es ρ1 = some (ds, ρ')) : evA G CL C (e :: es) ρ = some (o.frz :: ds, ρ') := by
  unfold evA; cases e <;> first | (cases hb; done) | (simp only; rw [h]; simp only; rw [k])
/-! statements -/
variable {s : S} {ss : List S} {fl : Flow} {R : Option (Flow × Env)}
theorem ss_nil : evSs G CL W C [] ρ = some (.nx, ρ) := rfl
theorem ss_cons (h : evS G CL W C s ρ = some (fl, ρ1)) (k : flK fl (evSs G CL W C ss ρ1) ρ1 = R) : evSs G CL W C (s :: ss) ρ = R := by unfold evSs; rw [h]; rw [← k]; cases fl <;> rfl
theorem fl_nx {X : Option (Flow × Env)} (k : X = R) : flK .nx X ρ = R := k
theorem fl_rt {X : Option (Flow × Env)} : flK (.rt o) X ρ = some (.rt o, ρ) := rfl
theorem fl_bk {X : Option (Flow × Env)} : flK .bk X ρ = some (.bk, ρ) := rfl
theorem fl_ct {X : Option (Flow × Env)} : flK .ct X ρ = some (.ct, ρ) := rfl
theorem s_asg (h : ev G CL C e false ρ = some (o, ρ')) : evS G CL W C (.asg i e) ρ = some (.nx, setS ρ' i (some o)) := by unfold evS; rw [h]
theorem s_unp {is : List Nat} (h : ev G CL C e false ρ = some (o, ρ')) (h2 : bindT (.many is) o.frz ρ' = some ρ1) : evS G CL W C (.unp is e) ρ = some (.nx, ρ1) := by unfold evS; rw [h]; simp only; rw [h2]
theorem s_setI {k : E} {o2 o3 : O} (h : ev G CL C e false ρ = some (o, ρ1)) (h1 : getS ρ1 i = some o0) (h2 : ev G CL C k false ρ1 = some (o1, ρ2)) (h3 : getS ρ2 i = some o2) (h4 : setO o2 o1.frz o.frz = some o3) : evS G CL W C (.setI i k e) ρ = some (.nx, setS ρ2 i (some o3)) := by
  unfold evS; rw [h]; simp only; rw [h1]; simp only; rw [h2]; simp only; rw [h3]; simp only; rw [h4]
theorem s_app {xs ys : List D} (h0 : getS ρ i = some (.lst ys)) (h : ev G CL C e false ρ = some (o, ρ')) (h1 : getS ρ' i = some (.lst xs)) (hz : xs.length < sizeLine) : evS G CL W C (.mut .app i [e]) ρ = some (.nx, setS ρ' i (some (.lst (xs ++ [o.frz])))) := by
  unfold evS; rw [h0]; simp only [evV]; rw [h]; simp only; rw [h1]; simp only [mutO]; rw [if_pos hz]
theorem s_rev {xs : List D} (h0 : getS ρ i = some (.lst xs)) : evS G CL W C (.mut .rev i []) ρ = some (.nx, setS ρ i (some (.lst xs.reverse))) := by
  unfold evS; rw [h0]; simp only [evV]; rw [h0]; rfl
theorem s_aug {j k w : Int} (h0 : getS ρ i = some (.val (.int j))) (h : ev G CL C e false ρ = some (o, ρ')) (hk : o.frz = .int k) (p1 : prim p [.int j, .int k] = some (.val (.int w))) : evS G CL W C (.aug i p e) ρ = some (.nx, setS ρ' i (some (.val (.int w)))) := by
  unfold evS; rw [h0]; simp only; rw [h]; simp only; rw [hk]; simp only; rw [p1]
theorem s_expr (h : ev G CL C e false ρ = some (o, ρ')) : evS G CL W C (.expr e) ρ = some (.nx, ρ') := by unfold evS; rw [h]
theorem s_ret (h : ev G CL C e false ρ = some (o, ρ')) : evS G CL W C (.ret e) ρ = some (.rt o, ρ') := by unfold evS; rw [h]
theorem s_retN : evS G CL W C .retN ρ = some (.rt (.val .non), ρ) := rfl
theorem s_pass : evS G CL W C .pass ρ = some (.nx, ρ) := rfl
theorem s_brk : evS G CL W C .brk ρ = some (.bk, ρ) := rfl
theorem s_cont : evS G CL W C .cont ρ = some (.ct, ρ) := rfl
theorem s_ite {as bs : List S} (h : ev G CL C c true ρ = some (.val (.bl b), ρ')) (k : cond b (evSs G CL W C as ρ') (evSs G CL W C bs ρ') = R) : evS G CL W C (.ite c as bs) ρ = R := by unfold evS; rw [h]; rw [← k]; cases b <;> rfl
theorem s_for {tg : Tg} {k : ItK} {body : List S} {xs : List D} (h : evV G CL C es ρ = some (ds, ρ1)) (h2 : iterD k ds = some xs) (h3 : forGo (bindT tg) (evSs G CL W C body) xs ρ1 = R) : evS G CL W C (.for tg k es body) ρ = R := by unfold evS; rw [h]; simp only; rw [h2]; exact h3
def fgK (fl : Flow) (x : Option (Flow × Env)) (y : Env) : Option (Flow × Env) := match fl with
  | .nx => x
  | .ct => x
  | .bk => some (.nx, y)
  | .rt o => some (.rt o, y)
theorem fg_nx {X : Option (Flow × Env)} (k : X = R) : fgK .nx X ρ = R := k
theorem fg_ct {X : Option (Flow × Env)} (k : X = R) : fgK .ct X ρ = R := k
theorem fg_bk {X : Option (Flow × Env)} : fgK .bk X ρ = some (.nx, ρ) := rfl
theorem fg_rt {X : Option (Flow × Env)} : fgK (.rt o) X ρ = some (.rt o, ρ) := rfl
theorem f_nil {bd : D → Env → Option Env} {body : Env → Option (Flow × Env)} : forGo bd body [] ρ = some (.nx, ρ) := rfl
theorem f_cons {bd : D → Env → Option Env} {body : Env → Option (Flow × Env)} {x : D} {xs : List D} (h : bd x ρ = some ρ1) (h2 : body ρ1 = some (fl, ρ2)) (k : fgK fl (forGo bd body xs ρ2) ρ2 = R) : forGo bd body (x :: xs) ρ = R := by
  unfold forGo; rw [h]; simp only; rw [h2]; rw [← k]; cases fl <;> rfl
/-- a loop that goes on to its end -/
theorem f_all {bd : D → Env → Option Env} {body : Env → Option (Flow × Env)} (P : Nat → Env → Prop) : ∀ (xs : List D) (k : Nat) (ρ : Env), P k ρ → (∀ j x ρ, xs[j]? = some x → P (k + j) ρ → ∃ ρ1 fl ρ2, bd x ρ = some ρ1 ∧ body ρ1 = some (fl, ρ2) ∧ (fl = .nx ∨ fl = .ct) ∧ P (k + j + 1) ρ2) →
    ∃ ρ', forGo bd body xs ρ = some (.nx, ρ') ∧ P (k + xs.length) ρ'
  | [], k, ρ, h, _ => ⟨ρ, rfl, h⟩
  | x :: xs, k, ρ, h, st => by
    obtain ⟨ρ1, fl, ρ2, h1, h2, h3, h4⟩ := st 0 x ρ rfl h
    obtain ⟨ρ', g1, g2⟩ := f_all P xs (k + 1) ρ2 h4 fun j y ρ hy hp => by
      have := st (j + 1) y ρ (by simpa using hy) (by rw [show k + (j + 1) = k + 1 + j by omega]; exact hp)
      rw [show k + (j + 1) + 1 = k + 1 + j + 1 by omega] at this
      exact this
    refine ⟨ρ', f_cons h1 h2 ?_, by rw [List.length_cons, show k + (xs.length + 1) = k + 1 + xs.length by omega]; exact g2⟩
    rcases h3 with rfl | rfl
    · exact fg_nx g1
    · exact fg_ct g1
/-- a comprehension without tests -/
theorem c_all {step : D → Env → Option (Option D × Env)} (P : Nat → List D → Env → Prop) : ∀ (xs : List D) (k : Nat) (acc : List D) (ρ : Env), P k acc ρ → (∀ j x acc ρ, xs[j]? = some x → P (k + j) acc ρ → ∃ od ρ1, step x ρ = some (od, ρ1) ∧ P (k + j + 1) (acc ++ od.toList) ρ1) →
    ∃ ds ρ', compGo step xs ρ = some (ds, ρ') ∧ P (k + xs.length) (acc ++ ds) ρ'
  | [], k, acc, ρ, h, _ => ⟨[], ρ, rfl, by simpa using h⟩
  | x :: xs, k, acc, ρ, h, st => by
    obtain ⟨od, ρ1, h1, h2⟩ := st 0 x acc ρ rfl h
    obtain ⟨ds, ρ', g1, g2⟩ := c_all P xs (k + 1) (acc ++ od.toList) ρ1 h2 fun j y acc ρ hy hp => by
      have := st (j + 1) y acc ρ (by simpa using hy) (by rw [show k + (j + 1) = k + 1 + j by omega]; exact hp)
      rw [show k + (j + 1) + 1 = k + 1 + j + 1 by omega] at this
      exact this
    exact ⟨od.toList ++ ds, ρ', cg_cons h1 g1, by rw [List.length_cons, show k + (xs.length + 1) = k + 1 + xs.length by omega, ← List.append_assoc]; exact g2⟩
end
section
variable {T : Tab} {n f : Nat} {F : Fn} {os : List O} {o : O} {ρ : Env} {ps : List (Option O)}
theorem r_fn (hF : T.fns[f]? = some F) (h1 : (os.length == F.np && selfOk F.cl os) = true) (h : evSs T.G T.CL T.W (evF T n) F.body (startS F.ns os) = some (.rt o, ρ)) (hp : headS ρ F.np = ps) : evF T (n + 1) f os = some (o, ps) := by
  unfold evF; rw [hF]; simp only; rw [h1]; simp only; rw [h, ← hp]
theorem r_fn0 (hF : T.fns[f]? = some F) (h1 : (os.length == F.np && selfOk F.cl os) = true) (h : evSs T.G T.CL T.W (evF T n) F.body (startS F.ns os) = some (.nx, ρ)) (hp : headS ρ F.np = ps) : evF T (n + 1) f os = some (.val .non, ps) := by
  unfold evF; rw [hF]; simp only; rw [h1]; simp only; rw [h, ← hp]
end
/-! small operations at open numbers -/
theorem p_mul1 {i j : Int} (h : -(2 ^ 64) < i ∧ i < 2 ^ 64) : prim .mul [.int i, .int j] = some (.val (.int (i * j))) := by show (if _ then _ else _) = _; rw [if_pos (.inl h)]; rfl
theorem p_mul2 {i j : Int} (h : -(2 ^ 64) < j ∧ j < 2 ^ 64) : prim .mul [.int i, .int j] = some (.val (.int (i * j))) := by show (if _ then _ else _) = _; rw [if_pos (.inr h)]; rfl
theorem p_mod {i j : Int} (h : 0 < j) : prim .mod [.int i, .int j] = some (.val (.int (i % j))) := by show (if _ then _ else _) = _; rw [if_pos h]; rfl
theorem p_fdiv {i j : Int} (h : 0 < j ∧ j < 2 ^ 64) : prim .fdiv [.int i, .int j] = some (.val (.int (i / j))) := by show (if _ then _ else _) = _; rw [if_pos h]; rfl
theorem p_catL {xs ys : List D} (h : xs.length + ys.length ≤ sizeLine) : prim .add [.lst xs, .lst ys] = some (.lst (xs ++ ys)) := by show (if _ then _ else _) = _; rw [if_pos h]
theorem p_catS {i j : Str} (h : i.length + j.length ≤ sizeLine) : prim .add [.str i, .str j] = some (.val (.str (i ++ j))) := by show (if _ then _ else _) = _; rw [if_pos h]
theorem p_ixL {xs : List D} {i : Int} {d : D} (h : atI xs i = some d) : prim .idx [.lst xs, .int i] = some (.val d) := by show (atI xs i).map O.val = _; rw [h]; rfl
theorem p_ixT {xs : List D} {i : Int} {d : D} (h : atI xs i = some d) : prim .idx [.tup xs, .int i] = some (.val d) := by show (atI xs i).map O.val = _; rw [h]; rfl
theorem p_ixS {z : Str} {i : Int} {c : Nat} (hz : z.length ≤ sizeLine) (h : atI z.cps.toList i = some c) : prim .idx [.str z, .int i] = some (.val (sign c)) := by show (if _ then _ else _) = _; rw [if_pos hz, h]; rfl
theorem tr_str {y : Str} (h : y.length ≤ sizeLine) : truth (.str y) = some ((y.length : Int) != 0) := by show (if _ then _ else _) = _; rw [if_pos h]
theorem sz_le {n : Nat} (h : Nat.ble n 1000000 = true) : n ≤ sizeLine := Nat.le_trans (Nat.le_of_ble_eq_true h) (by decide)
theorem sz_lt {n : Nat} (h : Nat.ble n 1000000 = true) : n < sizeLine := Nat.lt_of_le_of_lt (Nat.le_of_ble_eq_true h) (by decide)
def isStr : D → Bool
  | .str _ => true
  | _ => false
theorem atI_of {xs : List D} {i : Int} (h0 : 0 ≤ i) (h1 : i < xs.length) : ∃ d, atI xs i = some d ∧ d ∈ xs := by
  obtain ⟨j, rfl⟩ := Int.eq_ofNat_of_zero_le h0
  have hj : j < xs.length := by omega
  exact ⟨xs[j], atI_nat (List.getElem?_eq_getElem hj), List.getElem_mem hj⟩
theorem atI_cps {xs : List Nat} {i : Int} (h0 : 0 ≤ i) (h1 : i < xs.length) : ∃ c, atI xs i = some c := by
  obtain ⟨j, rfl⟩ := Int.eq_ofNat_of_zero_le h0
  have hj : j < xs.length := by omega
  exact ⟨xs[j], atI_nat (List.getElem?_eq_getElem hj)⟩
theorem atI_str {xs : List D} {i : Int} (hs : xs.all isStr = true) (h0 : 0 ≤ i) (h1 : i < xs.length) : ∃ s, atI xs i = some (.str s) := by
  obtain ⟨d, h, hm⟩ := atI_of h0 h1
  have := List.all_eq_true.mp hs d hm
  cases d with
  | str s => exact ⟨s, h⟩
  | _ => cases this
theorem allStr_snoc : ∀ {xs : List D} {ys : List Str} {y : Str}, allStr xs = some ys → allStr (xs ++ [.str y]) = some (ys ++ [y])
  | [], ys, y, h => by cases h; rfl
  | x :: xs, ys, y, h => by
    cases x with
    | str s =>
      cases q : allStr xs with
      | none => simp [allStr, q] at h
      | some zs =>
        simp [allStr, q] at h
        subst h
        simp [allStr, allStr_snoc q]
    | _ => simp [allStr] at h
theorem p_join {a : Str} {xs : List D} {ys : List Str} (h : allStr xs = some ys) (hz : (ys.map (·.length)).sum + ys.length * a.length ≤ 16777216) : prim .join [.str a, .lst xs] = some (.val (.str (Txt.join a ys))) := by
  simp only [prim, str1, seqOf, Option.bind_some, h]
  rw [if_pos hz]
end EV

namespace K23
open PyProof.Rows PySem L2 PySem.Spec EV
def topS (i : Nat) : Stmt := PySem.Challenge.pw_kindreach_k23_the_least_world.main.body.getD i (.Pass ⟨0, 0, 0, 0⟩)
def f0 : FnS := ⟨"law", false, 0, ["script"], [false]⟩
def n0 : List Str := ["script", "due", "world", "k", "state", "name", "entry", "scheme", "one"]
/-- law -/
def b0 : List S := [.asg 1 (.frz (.call 1 [])), .asg 2 (.frz (.call 2 [])), .ite (.or (.not (.op (.isi [100]) [.var 2])) (.op .ne [.tup [.op (.fld 0) [.var 2], .op (.fld 1) [.var 2], .op (.fld 2) [.var 2]], .tup [.tup [], .tup [], .tup []]])) [.ret (.lit (.bl false))] [], .ite (.or (.not (.op (.isi [2]) [.op (.fld 3) [.var 2]])) (.or (.op .ne [.op (.fld 3) [.var 2], .var 1]) (.op .ne [.op (.fld 3) [.call 2 []], .var 1]))) [.ret (.lit (.bl false))] [], .for (.one 3) .rng1 [.op .max2 [.lit (.int 1), .op .min2 [.op .len [.var 0], .lit (.int 20)]]] [.asg 4 (.call 3 [.call 4 [.var 0, .var 3]]), .asg 5 (.frz (.call 5 [.rf 4])), .asg 6 (.lit (.non)), .asg 7 (.lit (.non)), .for (.one 8) .plain [.var 1] [.ite (.op .eq [.op .idx [.var 8, .lit (.int 0)], .var 5]) [.asg 6 (.var 8), .asg 7 (.frz (.op .idx [.var 8, .lit (.int 1)]))] []], .ite (.or (.op .ne [.meth 7 (.var 2) [.var 5], .var 6]) (.op .ne [.meth 6 (.var 2) [.var 5], .var 7])) [.ret (.lit (.bl false))] [], .ite (.or (.op .notN [.meth 9 (.var 2) [.var 5], .lit (.non)]) (.op .notN [.meth 8 (.var 2) [.var 5], .lit (.non)])) [.ret (.lit (.bl false))] [], .ite (.or (.op .notN [.meth 11 (.var 2) [.var 5], .lit (.non)]) (.op .notN [.meth 10 (.var 2) [.var 5, .lit (.str "num")], .lit (.non)])) [.ret (.lit (.bl false))] []], .ret (.lit (.bl true))]
def f1 : FnS := ⟨"_law_due", false, 0, [], []⟩
def n1 : List Str := ["due", "name", "last", "kind"]
/-- _law_due -/
def b1 : List S := [.asg 0 (.lst []), .for (.many [1, 2]) .plain [.lst [.tup [.lit (.str "add"), .lit (.str "num")], .tup [.lit (.str "sub"), .lit (.str "num")], .tup [.lit (.str "less"), .lit (.str "truth")]]] [.asg 3 (.tup [.lit (.str "fun"), .tup [.lit (.str "num")], .tup [.lit (.str "fun"), .tup [.lit (.str "num")], .tup [.var 2]]]), .mut .app 0 [.tup [.var 1, .tup [.tup [], .tup [], .var 3], .lit (.non), .lit (.non)]]], .ret (.op .tuple [.bw 0])]
def f2 : FnS := ⟨"least_world", false, 0, [], []⟩
def n2 : List Str := ["names", "name", "kind"]
/-- least_world -/
def b2 : List S := [.asg 0 (.lst []), .for (.many [1, 2]) .plain [.tup [.tup [.lit (.str "add"), .glob 0], .tup [.lit (.str "sub"), .glob 0], .tup [.lit (.str "less"), .glob 1]]] [.mut .app 0 [.tup [.var 1, .call 12 [.var 2], .lit (.non), .lit (.non)]]], .ret (.new 0 [.tup [], .tup [], .tup [], .op .tuple [.bw 0]])]
def f3 : FnS := ⟨"_law_begin", false, 0, ["cell"], [false]⟩
def n3 : List Str := ["cell"]
/-- _law_begin -/
def b3 : List S := [.ret (.lst [.op .fdiv [.var 0, .lit (.int 2)], .op .mod [.var 0, .lit (.int 2)]])]
def f4 : FnS := ⟨"_law_at", false, 0, ["script", "k"], [false, false]⟩
def n4 : List Str := ["script", "k"]
/-- _law_at -/
def b4 : List S := [.ite (.op .lt [.var 1, .op .len [.var 0]]) [.ret (.op .idx [.var 0, .var 1])] [], .ret (.op .mod [.op .mul [.op .add [.op .mod [.op .idx [.op .add [.var 0, .lst [.lit (.int 0)]], .lit (.int 0)], .lit (.int 1000003)], .lit (.int 37)], .op .add [.op .mul [.var 1, .var 1], .lit (.int 40031)]], .lit (.int 2147483647)])]
def f5 : FnS := ⟨"_law_name", false, 0, ["state"], [true]⟩
def n5 : List Str := ["state", "letters", "some", "k"]
/-- _law_name -/
def b5 : List S := [.asg 1 (.lit (.str "abdelsu")), .asg 2 (.frz (.lst [.lit (.str "add"), .lit (.str "sub"), .lit (.str "less"), .lit (.str "ad"), .lit (.str "addd"), .lit (.str "su"), .lit (.str "les"), .lit (.str "subs"), .lit (.str "num"), .lit (.str "truth"), .lit (.str "s"), .lit (.str "same"), .lit (.str "lesss"), .lit (.str "Add")])), .ite (.op .eq [.call 13 [.rf 0, .lit (.int 2)], .lit (.int 0)]) [.ret (.op .idx [.var 2, .call 13 [.rf 0, .lit (.int 14)]])] [], .ret (.mop .join (.lit (.str "")) [.comp (.one 3) .rng1 [.op .add [.lit (.int 1), .call 13 [.rf 0, .lit (.int 8)]]] [] (.op .idx [.var 1, .call 13 [.rf 0, .lit (.int 7)]])])]
def f6 : FnS := ⟨"scheme_of", true, 0, ["self", "name"], [false, false]⟩
def n6 : List Str := ["self", "name", "entry", "one"]
/-- scheme_of -/
def b6 : List S := [.asg 2 (.frz (.meth 7 (.var 0) [.var 1])), .ite (.op .notN [.var 2, .lit (.non)]) [.ret (.op .idx [.var 2, .lit (.int 1)])] [], .asg 3 (.frz (.meth 14 (.var 0) [.var 1])), .ite (.op .isN [.var 3, .lit (.non)]) [.ret (.lit (.non))] [], .fail]
def f7 : FnS := ⟨"name_called", true, 0, ["self", "name"], [false, false]⟩
def n7 : List Str := ["self", "name", "entry"]
/-- name_called -/
def b7 : List S := [.for (.one 2) .plain [.op (.fld 3) [.var 0]] [.ite (.op .eq [.op .idx [.var 2, .lit (.int 0)], .var 1]) [.ret (.var 2)] []], .ret (.lit (.non))]
def f8 : FnS := ⟨"shape_called", true, 0, ["self", "name"], [false, false]⟩
def n8 : List Str := ["self", "name", "shape"]
/-- shape_called -/
def b8 : List S := [.for (.one 2) .plain [.op (.fld 0) [.var 0]] [.ite (.op .eq [.op .idx [.var 2, .lit (.int 0)], .var 1]) [.ret (.var 2)] []], .ret (.lit (.non))]
def f9 : FnS := ⟨"shape_of", true, 0, ["self", "mark"], [false, false]⟩
def n9 : List Str := ["self", "mark", "shape", "one", "kinds"]
/-- shape_of -/
def b9 : List S := [.for (.one 2) .plain [.op (.fld 0) [.var 0]] [.ite (.and (.op .notN [.op .idx [.var 2, .lit (.int 2)], .lit (.non)]) (.op .isin [.var 1, .comp (.many [3, 4]) .plain [.op .idx [.var 2, .lit (.int 2)]] [] (.var 3)])) [.ret (.var 2)] []], .ret (.lit (.non))]
def f10 : FnS := ⟨"house_for", true, 0, ["self", "called", "head"], [false, false, false]⟩
def n10 : List Str := ["self", "called", "head", "house"]
/-- house_for -/
def b10 : List S := [.for (.one 3) .plain [.op (.fld 2) [.var 0]] [.ite (.and (.op .eq [.op .idx [.var 3, .lit (.int 0)], .var 1]) (.op .eq [.op .idx [.var 3, .lit (.int 1)], .var 2])) [.ret (.var 3)] []], .ret (.lit (.non))]
def f11 : FnS := ⟨"class_called", true, 0, ["self", "name"], [false, false]⟩
def n11 : List Str := ["self", "name", "one"]
/-- class_called -/
def b11 : List S := [.for (.one 2) .plain [.op (.fld 1) [.var 0]] [.ite (.op .eq [.op .idx [.var 2, .lit (.int 0)], .var 1]) [.ret (.var 2)] []], .ret (.lit (.non))]
def f12 : FnS := ⟨"of_two_numbers", false, 0, ["kind"], [false]⟩
def n12 : List Str := ["kind"]
/-- of_two_numbers -/
def b12 : List S := [.ret (.tup [.tup [], .tup [], .tup [.lit (.str "fun"), .glob 0, .tup [.lit (.str "fun"), .glob 0, .var 0]]])]
def f13 : FnS := ⟨"_law_draw", false, 0, ["state", "many"], [true, false]⟩
def n13 : List Str := ["state", "many", "number", "got"]
/-- _law_draw -/
def b13 : List S := [.ite (.op .eq [.op .idx [.bw 0, .lit (.int 1)], .lit (.int 0)]) [.asg 3 (.frz (.op .mod [.op .idx [.bw 0, .lit (.int 0)], .var 1])), .setI 0 (.lit (.int 0)) (.op .fdiv [.op .idx [.bw 0, .lit (.int 0)], .var 1]), .ret (.var 3)] [], .asg 2 (.frz (.op .mod [.op .add [.op .mul [.op .mod [.op .idx [.bw 0, .lit (.int 0)], .lit (.int 2147483647)], .lit (.int 48271)], .lit (.int 11)], .lit (.int 2147483629)])), .setI 0 (.lit (.int 0)) (.op .mod [.op .add [.op .add [.op .mul [.var 2, .lit (.int 69621)], .op .mod [.op .fdiv [.op .idx [.bw 0, .lit (.int 0)], .lit (.int 2147483647)], .lit (.int 1000003)]], .lit (.int 7)], .lit (.int 2147483587)]), .ret (.op .mod [.op .fdiv [.op .mod [.op .add [.op .mul [.op .idx [.bw 0, .lit (.int 0)], .lit (.int 16807)], .lit (.int 3)], .lit (.int 2147483579)], .lit (.int 5)], .var 1])]
def f14 : FnS := ⟨"class_by_deed", true, 0, ["self", "name"], [false, false]⟩
def n14 : List Str := ["self", "name", "one"]
/-- class_by_deed -/
def b14 : List S := [.for (.one 2) .plain [.op (.fld 1) [.var 0]] [.ite (.op .eq [.op .idx [.var 2, .lit (.int 1)], .var 1]) [.ret (.var 2)] []], .ret (.lit (.non))]
def T : Stat := ⟨["NUM", "TRUTH"], [f0, f1, f2, f3, f4, f5, f6, f7, f8, f9, f10, f11, f12, f13, f14], ["shapes", "classes", "houses", "names"], ["World"]⟩
def B : Tab := ⟨[.tup [.str "num"], .tup [.str "truth"]], [[0, 1, 2, 3]], 200, [⟨1, 9, none, b0⟩, ⟨0, 4, none, b1⟩, ⟨0, 3, none, b2⟩, ⟨1, 1, none, b3⟩, ⟨2, 2, none, b4⟩, ⟨1, 4, none, b5⟩, ⟨2, 4, some 0, b6⟩, ⟨2, 3, some 0, b7⟩, ⟨2, 3, some 0, b8⟩, ⟨2, 5, some 0, b9⟩, ⟨3, 4, some 0, b10⟩, ⟨2, 3, some 0, b11⟩, ⟨1, 1, none, b12⟩, ⟨2, 4, none, b13⟩, ⟨2, 3, some 0, b14⟩]⟩
theorem m0 : fnB T B 0 f0 n0 b0 (topS 15) = true := by decide +kernel
theorem m1 : fnB T B 1 f1 n1 b1 (topS 14) = true := by decide +kernel
theorem m2 : fnB T B 2 f2 n2 b2 (topS 8) = true := by decide +kernel
theorem m3 : fnB T B 3 f3 n3 b3 (topS 11) = true := by decide +kernel
theorem m4 : fnB T B 4 f4 n4 b4 (topS 10) = true := by decide +kernel
theorem m5 : fnB T B 5 f5 n5 b5 (topS 13) = true := by decide +kernel
theorem m6 : fnB T B 6 f6 n6 b6 (inClass (topS 6) 7) = true := by decide +kernel
theorem m7 : fnB T B 7 f7 n7 b7 (inClass (topS 6) 6) = true := by decide +kernel
theorem m8 : fnB T B 8 f8 n8 b8 (inClass (topS 6) 2) = true := by decide +kernel
theorem m9 : fnB T B 9 f9 n9 b9 (inClass (topS 6) 1) = true := by decide +kernel
theorem m10 : fnB T B 10 f10 n10 b10 (inClass (topS 6) 5) = true := by decide +kernel
theorem m11 : fnB T B 11 f11 n11 b11 (inClass (topS 6) 3) = true := by decide +kernel
theorem m12 : fnB T B 12 f12 n12 b12 (topS 7) = true := by decide +kernel
theorem m13 : fnB T B 13 f13 n13 b13 (topS 12) = true := by decide +kernel
theorem m14 : fnB T B 14 f14 n14 b14 (inClass (topS 6) 4) = true := by decide +kernel
def cn0 : List Str := ["self", "shapes", "classes", "houses", "names"]
theorem cm0 : (fsB cn0 cn0 (defScope (inClass (topS 6) 0)) && initB T ("self" : Str) ⟨cn0, defScope (inClass (topS 6) 0), fun _ => true, []⟩ 1 [0, 1, 2, 3] (defBody (inClass (topS 6) 0))) = true := by decide +kernel
theorem at_ok (n : Nat) (ns : List Int) (hl : ns.length ≤ 63) (j : Nat) (hj : j < 100) : ∃ c, evF B (n + 1) 4 [.val (.lst (ns.map .int)), .val (.int j)] = some (.val (.int c), [some (.val (.lst (ns.map .int))), some (.val (.int j))]) := by
  by_cases hk : j < ns.length
  · have h1 : atI (ns.map EV.D.int) (j : Int) = some (.int ns[j]) := atI_nat (by simp [hk])
    have hk' : (j : Int) < ((ns.map EV.D.int).length : Int) := by simp [hk]
    apply Exists.intro; apply r_fn (F := ⟨2, 2, none, b4⟩) rfl rfl
    · unfold b4
      dsimp only
      repeat (first | with_reducible exact r_lit | with_reducible exact f_nil | with_reducible exact o_nil | with_reducible exact v_nil | with_reducible exact a_nil | with_reducible exact ss_nil | with_reducible exact s_retN | with_reducible exact s_pass | with_reducible exact s_brk | with_reducible exact s_cont | with_reducible exact fl_rt | with_reducible exact fl_bk | with_reducible exact fl_ct | with_reducible exact fg_bk | with_reducible exact fg_rt | with_reducible exact r_dct | with_reducible apply ss_cons | with_reducible apply f_cons | with_reducible apply s_for | with_reducible apply s_asg | with_reducible apply s_ret | with_reducible apply s_ite | with_reducible apply s_expr | with_reducible apply s_app | with_reducible apply s_setI | with_reducible apply s_unp | with_reducible apply s_aug | with_reducible apply s_rev | with_reducible apply fl_nx | with_reducible apply fg_nx | with_reducible apply fg_ct | with_reducible apply r_var | with_reducible apply r_op | with_reducible apply t_op | with_reducible apply r_mv | with_reducible apply r_sh | with_reducible apply r_glob | with_reducible apply r_bw | with_reducible apply t_bw | with_reducible apply t_var | with_reducible apply t_lit | with_reducible apply r_mopB | with_reducible apply (r_mop rfl) | with_reducible apply t_mop | with_reducible apply r_tup | with_reducible apply r_lst | with_reducible apply r_and | with_reducible apply r_or | with_reducible apply r_not | with_reducible apply r_ite | with_reducible apply r_cmp2 | with_reducible apply r_cmp2z | with_reducible apply r_call | with_reducible apply t_call | with_reducible apply r_meth | with_reducible apply t_meth | with_reducible apply r_new | with_reducible apply r_frz | with_reducible apply r_pop | with_reducible apply r_popAt | with_reducible apply o_bw | with_reducible apply (o_cons rfl) | with_reducible apply v_cons | with_reducible apply a_rf | with_reducible apply (a_cons rfl) | ((with_reducible apply cond_t); focus (first | rfl | assumption | (simp [*]; done))) | ((with_reducible apply cond_f); focus (first | rfl | assumption | (simp [*]; done))) | (focus (with_reducible show prim .mod _ = _); exact p_mod (by omega)) | (focus (with_reducible show prim .fdiv _ = _); exact p_fdiv ⟨by omega, by omega⟩) | (focus (with_reducible show prim .mul _ = _); first | exact p_mul2 ⟨by omega, by omega⟩ | exact p_mul1 ⟨by omega, by omega⟩) | (focus (with_reducible show prim _ _ = _); first  | exact p_ixL h1 | rfl) | (focus (with_reducible show getS _ _ = _); rfl) | (focus (with_reducible show truth _ = _); rfl) | (focus (with_reducible show takeA _ _ _ = _); rfl) | (focus (with_reducible show setO _ _ _ = _); rfl) | (focus (with_reducible show plainS _ _ = _); rfl) | (focus (with_reducible show iterD _ _ = _); rfl) | (focus (with_reducible show bindT _ _ _ = _); rfl) | (focus (with_reducible show O.frz _ = _); rfl) | (focus (with_reducible show rcv _ _ = _); rfl) | (focus (with_reducible show getElem? _ _ = _); rfl) | (focus (with_reducible show _ ≤ sizeLine); exact sz_le rfl) | (focus (with_reducible show _ < sizeLine); exact sz_lt rfl) | (focus (with_reducible show flK (.rt _) _ _ = _); exact fl_rt) | (focus (with_reducible show fgK (.rt _) _ _ = _); exact fg_rt) | (focus (with_reducible show List.length _ = _); rfl))
    · rfl
  · have hs : (ns.map EV.D.int).length + [EV.D.int 0].length ≤ sizeLine := by
      rw [List.length_map]
      exact Nat.le_trans (show ns.length + 1 ≤ 64 by omega) (by decide)
    have h0 : ∃ y, atI (ns.map EV.D.int ++ [EV.D.int 0]) 0 = some (.int y) := by
      cases ns with
      | nil => exact ⟨0, rfl⟩
      | cons x r => exact ⟨x, atI_nat (j := 0) (by simp)⟩
    obtain ⟨y, hy⟩ := h0
    have hk' : ¬ (j : Int) < ((ns.map EV.D.int).length : Int) := by simpa using hk
    apply Exists.intro; apply r_fn (F := ⟨2, 2, none, b4⟩) rfl rfl
    · unfold b4
      dsimp only
      repeat (first | with_reducible exact r_lit | with_reducible exact f_nil | with_reducible exact o_nil | with_reducible exact v_nil | with_reducible exact a_nil | with_reducible exact ss_nil | with_reducible exact s_retN | with_reducible exact s_pass | with_reducible exact s_brk | with_reducible exact s_cont | with_reducible exact fl_rt | with_reducible exact fl_bk | with_reducible exact fl_ct | with_reducible exact fg_bk | with_reducible exact fg_rt | with_reducible exact r_dct | with_reducible apply ss_cons | with_reducible apply f_cons | with_reducible apply s_for | with_reducible apply s_asg | with_reducible apply s_ret | with_reducible apply s_ite | with_reducible apply s_expr | with_reducible apply s_app | with_reducible apply s_setI | with_reducible apply s_unp | with_reducible apply s_aug | with_reducible apply s_rev | with_reducible apply fl_nx | with_reducible apply fg_nx | with_reducible apply fg_ct | with_reducible apply r_var | with_reducible apply r_op | with_reducible apply t_op | with_reducible apply r_mv | with_reducible apply r_sh | with_reducible apply r_glob | with_reducible apply r_bw | with_reducible apply t_bw | with_reducible apply t_var | with_reducible apply t_lit | with_reducible apply r_mopB | with_reducible apply (r_mop rfl) | with_reducible apply t_mop | with_reducible apply r_tup | with_reducible apply r_lst | with_reducible apply r_and | with_reducible apply r_or | with_reducible apply r_not | with_reducible apply r_ite | with_reducible apply r_cmp2 | with_reducible apply r_cmp2z | with_reducible apply r_call | with_reducible apply t_call | with_reducible apply r_meth | with_reducible apply t_meth | with_reducible apply r_new | with_reducible apply r_frz | with_reducible apply r_pop | with_reducible apply r_popAt | with_reducible apply o_bw | with_reducible apply (o_cons rfl) | with_reducible apply v_cons | with_reducible apply a_rf | with_reducible apply (a_cons rfl) | ((with_reducible apply cond_t); focus (first | rfl | assumption | (simp [*]; done))) | ((with_reducible apply cond_f); focus (first | rfl | assumption | (simp [*]; done))) | (focus (with_reducible show prim .mod _ = _); exact p_mod (by omega)) | (focus (with_reducible show prim .fdiv _ = _); exact p_fdiv ⟨by omega, by omega⟩) | (focus (with_reducible show prim .mul _ = _); first | exact p_mul2 ⟨by omega, by omega⟩ | exact p_mul1 ⟨by omega, by omega⟩) | (focus (with_reducible show prim _ _ = _); first  | exact p_ixL hy | exact p_catL hs | rfl) | (focus (with_reducible show getS _ _ = _); rfl) | (focus (with_reducible show truth _ = _); rfl) | (focus (with_reducible show takeA _ _ _ = _); rfl) | (focus (with_reducible show setO _ _ _ = _); rfl) | (focus (with_reducible show plainS _ _ = _); rfl) | (focus (with_reducible show iterD _ _ = _); rfl) | (focus (with_reducible show bindT _ _ _ = _); rfl) | (focus (with_reducible show O.frz _ = _); rfl) | (focus (with_reducible show rcv _ _ = _); rfl) | (focus (with_reducible show getElem? _ _ = _); rfl) | (focus (with_reducible show _ ≤ sizeLine); exact sz_le rfl) | (focus (with_reducible show _ < sizeLine); exact sz_lt rfl) | (focus (with_reducible show flK (.rt _) _ _ = _); exact fl_rt) | (focus (with_reducible show fgK (.rt _) _ _ = _); exact fg_rt) | (focus (with_reducible show List.length _ = _); rfl))
    · rfl


def duD : EV.D := .tup [.tup [.str "add", .tup [.tup [], .tup [], .tup [.str "fun", .tup [.str "num"], .tup [.str "fun", .tup [.str "num"], .tup [.str "num"]]]], .non, .non],
  .tup [.str "sub", .tup [.tup [], .tup [], .tup [.str "fun", .tup [.str "num"], .tup [.str "fun", .tup [.str "num"], .tup [.str "num"]]]], .non, .non],
  .tup [.str "less", .tup [.tup [], .tup [], .tup [.str "fun", .tup [.str "num"], .tup [.str "fun", .tup [.str "num"], .tup [.str "truth"]]]], .non, .non]]
def woD : EV.D := .ins 0 [(0, .tup []), (1, .tup []), (2, .tup []), (3, duD)]
theorem due_ok (n : Nat) : evF B (n + 1) 1 [] = some (.val duD, []) := by rfl
theorem lw_ok (n : Nat) : evF B (n + 2) 2 [] = some (.val woD, []) := by rfl
theorem beg_ok (n : Nat) (c : Int) : evF B (n + 1) 3 [.val (.int c)] = some (.lst [.int (c / 2), .int (c % 2)], [some (.val (.int c))]) := by
  apply r_fn (F := ⟨1, 1, none, b3⟩) rfl rfl
  · unfold b3
    dsimp only
    repeat (first | with_reducible exact r_lit | with_reducible exact f_nil | with_reducible exact o_nil | with_reducible exact v_nil | with_reducible exact a_nil | with_reducible exact ss_nil | with_reducible exact s_retN | with_reducible exact s_pass | with_reducible exact s_brk | with_reducible exact s_cont | with_reducible exact fl_rt | with_reducible exact fl_bk | with_reducible exact fl_ct | with_reducible exact fg_bk | with_reducible exact fg_rt | with_reducible exact r_dct | with_reducible apply ss_cons | with_reducible apply f_cons | with_reducible apply s_for | with_reducible apply s_asg | with_reducible apply s_ret | with_reducible apply s_ite | with_reducible apply s_expr | with_reducible apply s_app | with_reducible apply s_setI | with_reducible apply s_unp | with_reducible apply s_aug | with_reducible apply s_rev | with_reducible apply fl_nx | with_reducible apply fg_nx | with_reducible apply fg_ct | with_reducible apply r_var | with_reducible apply r_op | with_reducible apply t_op | with_reducible apply r_mv | with_reducible apply r_sh | with_reducible apply r_glob | with_reducible apply r_bw | with_reducible apply t_bw | with_reducible apply t_var | with_reducible apply t_lit | with_reducible apply r_mopB | with_reducible apply (r_mop rfl) | with_reducible apply t_mop | with_reducible apply r_tup | with_reducible apply r_lst | with_reducible apply r_and | with_reducible apply r_or | with_reducible apply r_not | with_reducible apply r_ite | with_reducible apply r_cmp2 | with_reducible apply r_cmp2z | with_reducible apply r_call | with_reducible apply t_call | with_reducible apply r_meth | with_reducible apply t_meth | with_reducible apply r_new | with_reducible apply r_frz | with_reducible apply r_pop | with_reducible apply r_popAt | with_reducible apply o_bw | with_reducible apply (o_cons rfl) | with_reducible apply v_cons | with_reducible apply a_rf | with_reducible apply (a_cons rfl) | ((with_reducible apply cond_t); focus (first | rfl | assumption | (simp [*]; done))) | ((with_reducible apply cond_f); focus (first | rfl | assumption | (simp [*]; done))) | (focus (with_reducible show prim .mod _ = _); exact p_mod (by omega)) | (focus (with_reducible show prim .fdiv _ = _); exact p_fdiv ⟨by omega, by omega⟩) | (focus (with_reducible show prim .mul _ = _); first | exact p_mul2 ⟨by omega, by omega⟩ | exact p_mul1 ⟨by omega, by omega⟩) | (focus (with_reducible show prim _ _ = _); first  | rfl) | (focus (with_reducible show getS _ _ = _); rfl) | (focus (with_reducible show truth _ = _); rfl) | (focus (with_reducible show takeA _ _ _ = _); rfl) | (focus (with_reducible show setO _ _ _ = _); rfl) | (focus (with_reducible show plainS _ _ = _); rfl) | (focus (with_reducible show iterD _ _ = _); rfl) | (focus (with_reducible show bindT _ _ _ = _); rfl) | (focus (with_reducible show O.frz _ = _); rfl) | (focus (with_reducible show rcv _ _ = _); rfl) | (focus (with_reducible show getElem? _ _ = _); rfl) | (focus (with_reducible show _ ≤ sizeLine); exact sz_le rfl) | (focus (with_reducible show _ < sizeLine); exact sz_lt rfl) | (focus (with_reducible show flK (.rt _) _ _ = _); exact fl_rt) | (focus (with_reducible show fgK (.rt _) _ _ = _); exact fg_rt) | (focus (with_reducible show List.length _ = _); rfl))
  · rfl
theorem draw_ok (n : Nat) (a b m : Int) (h0 : 0 < m) (h1 : m < 1000000) : ∃ r a', 0 ≤ r ∧ r < m ∧ evF B (n + 1) 13 [.lst [.int a, .int b], .val (.int m)] = some (.val (.int r), [some (.lst [.int a', .int b]), some (.val (.int m))]) := by
  by_cases hb : b = 0
  · subst hb
    refine ⟨a % m, a / m, Int.emod_nonneg _ (by omega), Int.emod_lt_of_pos _ h0, ?_⟩
    apply r_fn (F := ⟨2, 4, none, b13⟩) rfl rfl
    · unfold b13
      dsimp only
      repeat (first | with_reducible exact r_lit | with_reducible exact f_nil | with_reducible exact o_nil | with_reducible exact v_nil | with_reducible exact a_nil | with_reducible exact ss_nil | with_reducible exact s_retN | with_reducible exact s_pass | with_reducible exact s_brk | with_reducible exact s_cont | with_reducible exact fl_rt | with_reducible exact fl_bk | with_reducible exact fl_ct | with_reducible exact fg_bk | with_reducible exact fg_rt | with_reducible exact r_dct | with_reducible apply ss_cons | with_reducible apply f_cons | with_reducible apply s_for | with_reducible apply s_asg | with_reducible apply s_ret | with_reducible apply s_ite | with_reducible apply s_expr | with_reducible apply s_app | with_reducible apply s_setI | with_reducible apply s_unp | with_reducible apply s_aug | with_reducible apply s_rev | with_reducible apply fl_nx | with_reducible apply fg_nx | with_reducible apply fg_ct | with_reducible apply r_var | with_reducible apply r_op | with_reducible apply t_op | with_reducible apply r_mv | with_reducible apply r_sh | with_reducible apply r_glob | with_reducible apply r_bw | with_reducible apply t_bw | with_reducible apply t_var | with_reducible apply t_lit | with_reducible apply r_mopB | with_reducible apply (r_mop rfl) | with_reducible apply t_mop | with_reducible apply r_tup | with_reducible apply r_lst | with_reducible apply r_and | with_reducible apply r_or | with_reducible apply r_not | with_reducible apply r_ite | with_reducible apply r_cmp2 | with_reducible apply r_cmp2z | with_reducible apply r_call | with_reducible apply t_call | with_reducible apply r_meth | with_reducible apply t_meth | with_reducible apply r_new | with_reducible apply r_frz | with_reducible apply r_pop | with_reducible apply r_popAt | with_reducible apply o_bw | with_reducible apply (o_cons rfl) | with_reducible apply v_cons | with_reducible apply a_rf | with_reducible apply (a_cons rfl) | ((with_reducible apply cond_t); focus (first | rfl | assumption | (simp [*]; done))) | ((with_reducible apply cond_f); focus (first | rfl | assumption | (simp [*]; done))) | (focus (with_reducible show prim .mod _ = _); exact p_mod (by omega)) | (focus (with_reducible show prim .fdiv _ = _); exact p_fdiv ⟨by omega, by omega⟩) | (focus (with_reducible show prim .mul _ = _); first | exact p_mul2 ⟨by omega, by omega⟩ | exact p_mul1 ⟨by omega, by omega⟩) | (focus (with_reducible show prim _ _ = _); first  | rfl) | (focus (with_reducible show getS _ _ = _); rfl) | (focus (with_reducible show truth _ = _); rfl) | (focus (with_reducible show takeA _ _ _ = _); rfl) | (focus (with_reducible show setO _ _ _ = _); rfl) | (focus (with_reducible show plainS _ _ = _); rfl) | (focus (with_reducible show iterD _ _ = _); rfl) | (focus (with_reducible show bindT _ _ _ = _); rfl) | (focus (with_reducible show O.frz _ = _); rfl) | (focus (with_reducible show rcv _ _ = _); rfl) | (focus (with_reducible show getElem? _ _ = _); rfl) | (focus (with_reducible show _ ≤ sizeLine); exact sz_le rfl) | (focus (with_reducible show _ < sizeLine); exact sz_lt rfl) | (focus (with_reducible show flK (.rt _) _ _ = _); exact fl_rt) | (focus (with_reducible show fgK (.rt _) _ _ = _); exact fg_rt) | (focus (with_reducible show List.length _ = _); rfl))
    · rfl
  · generalize hz : (a % 2147483647 * 48271 + 11) % 2147483629 * 69621 + a / 2147483647 % 1000003 + 7 = z
    refine ⟨(z % 2147483587 * 16807 + 3) % 2147483579 / 5 % m, z % 2147483587, Int.emod_nonneg _ (by omega), Int.emod_lt_of_pos _ h0, ?_⟩
    subst hz
    apply r_fn (F := ⟨2, 4, none, b13⟩) rfl rfl
    · unfold b13
      dsimp only
      repeat (first | with_reducible exact r_lit | with_reducible exact f_nil | with_reducible exact o_nil | with_reducible exact v_nil | with_reducible exact a_nil | with_reducible exact ss_nil | with_reducible exact s_retN | with_reducible exact s_pass | with_reducible exact s_brk | with_reducible exact s_cont | with_reducible exact fl_rt | with_reducible exact fl_bk | with_reducible exact fl_ct | with_reducible exact fg_bk | with_reducible exact fg_rt | with_reducible exact r_dct | with_reducible apply ss_cons | with_reducible apply f_cons | with_reducible apply s_for | with_reducible apply s_asg | with_reducible apply s_ret | with_reducible apply s_ite | with_reducible apply s_expr | with_reducible apply s_app | with_reducible apply s_setI | with_reducible apply s_unp | with_reducible apply s_aug | with_reducible apply s_rev | with_reducible apply fl_nx | with_reducible apply fg_nx | with_reducible apply fg_ct | with_reducible apply r_var | with_reducible apply r_op | with_reducible apply t_op | with_reducible apply r_mv | with_reducible apply r_sh | with_reducible apply r_glob | with_reducible apply r_bw | with_reducible apply t_bw | with_reducible apply t_var | with_reducible apply t_lit | with_reducible apply r_mopB | with_reducible apply (r_mop rfl) | with_reducible apply t_mop | with_reducible apply r_tup | with_reducible apply r_lst | with_reducible apply r_and | with_reducible apply r_or | with_reducible apply r_not | with_reducible apply r_ite | with_reducible apply r_cmp2 | with_reducible apply r_cmp2z | with_reducible apply r_call | with_reducible apply t_call | with_reducible apply r_meth | with_reducible apply t_meth | with_reducible apply r_new | with_reducible apply r_frz | with_reducible apply r_pop | with_reducible apply r_popAt | with_reducible apply o_bw | with_reducible apply (o_cons rfl) | with_reducible apply v_cons | with_reducible apply a_rf | with_reducible apply (a_cons rfl) | ((with_reducible apply cond_t); focus (first | rfl | assumption | (simp [*]; done))) | ((with_reducible apply cond_f); focus (first | rfl | assumption | (simp [*]; done))) | (focus (with_reducible show prim .mod _ = _); exact p_mod (by omega)) | (focus (with_reducible show prim .fdiv _ = _); exact p_fdiv ⟨by omega, by omega⟩) | (focus (with_reducible show prim .mul _ = _); first | exact p_mul2 ⟨by omega, by omega⟩ | exact p_mul1 ⟨by omega, by omega⟩) | (focus (with_reducible show prim _ _ = _); first  | rfl) | (focus (with_reducible show getS _ _ = _); rfl) | (focus (with_reducible show truth _ = _); rfl) | (focus (with_reducible show takeA _ _ _ = _); rfl) | (focus (with_reducible show setO _ _ _ = _); rfl) | (focus (with_reducible show plainS _ _ = _); rfl) | (focus (with_reducible show iterD _ _ = _); rfl) | (focus (with_reducible show bindT _ _ _ = _); rfl) | (focus (with_reducible show O.frz _ = _); rfl) | (focus (with_reducible show rcv _ _ = _); rfl) | (focus (with_reducible show getElem? _ _ = _); rfl) | (focus (with_reducible show _ ≤ sizeLine); exact sz_le rfl) | (focus (with_reducible show _ < sizeLine); exact sz_lt rfl) | (focus (with_reducible show flK (.rt _) _ _ = _); exact fl_rt) | (focus (with_reducible show fgK (.rt _) _ _ = _); exact fg_rt) | (focus (with_reducible show List.length _ = _); rfl))
    · rfl

def soD : List EV.D := [.str "add", .str "sub", .str "less", .str "ad", .str "addd", .str "su", .str "les", .str "subs", .str "num", .str "truth", .str "s", .str "same", .str "lesss", .str "Add"]
theorem name_ok (n : Nat) (a b : Int) : ∃ s a', evF B (n + 2) 5 [.lst [.int a, .int b]] = some (.val (.str s), [some (.lst [.int a', .int b])]) := by
  obtain ⟨r1, a1, h0, h1, d1⟩ := draw_ok n a b 2 (by decide) (by decide)
  by_cases e : r1 = 0
  · subst e
    obtain ⟨r2, a2, g0, g1, d2⟩ := draw_ok n a1 b 14 (by decide) (by decide)
    obtain ⟨s, hs⟩ := atI_str (xs := soD) (i := r2) (by decide +kernel) g0 g1
    refine ⟨s, a2, ?_⟩
    apply r_fn (F := ⟨1, 4, none, b5⟩) rfl rfl
    · unfold b5
      dsimp only
      repeat (first | with_reducible exact r_lit | with_reducible exact f_nil | with_reducible exact o_nil | with_reducible exact v_nil | with_reducible exact a_nil | with_reducible exact ss_nil | with_reducible exact s_retN | with_reducible exact s_pass | with_reducible exact s_brk | with_reducible exact s_cont | with_reducible exact fl_rt | with_reducible exact fl_bk | with_reducible exact fl_ct | with_reducible exact fg_bk | with_reducible exact fg_rt | with_reducible exact r_dct | with_reducible apply ss_cons | with_reducible apply f_cons | with_reducible apply s_for | with_reducible apply s_asg | with_reducible apply s_ret | with_reducible apply s_ite | with_reducible apply s_expr | with_reducible apply s_app | with_reducible apply s_setI | with_reducible apply s_unp | with_reducible apply s_aug | with_reducible apply s_rev | with_reducible apply fl_nx | with_reducible apply fg_nx | with_reducible apply fg_ct | with_reducible apply r_var | with_reducible apply r_op | with_reducible apply t_op | with_reducible apply r_mv | with_reducible apply r_sh | with_reducible apply r_glob | with_reducible apply r_bw | with_reducible apply t_bw | with_reducible apply t_var | with_reducible apply t_lit | with_reducible apply r_mopB | with_reducible apply (r_mop rfl) | with_reducible apply t_mop | with_reducible apply r_tup | with_reducible apply r_lst | with_reducible apply r_and | with_reducible apply r_or | with_reducible apply r_not | with_reducible apply r_ite | with_reducible apply r_cmp2 | with_reducible apply r_cmp2z | with_reducible apply r_call | with_reducible apply t_call | with_reducible apply r_meth | with_reducible apply t_meth | with_reducible apply r_new | with_reducible apply r_frz | with_reducible apply r_pop | with_reducible apply r_popAt | with_reducible apply o_bw | with_reducible apply (o_cons rfl) | with_reducible apply v_cons | with_reducible apply a_rf | with_reducible apply (a_cons rfl) | (focus (with_reducible show evF _ _ 13 _ = _); first | exact d1 | exact d2) | ((with_reducible apply cond_t); focus (first | rfl | assumption | (simp [*]; done))) | ((with_reducible apply cond_f); focus (first | rfl | assumption | (simp [*]; done))) | (focus (with_reducible show prim .mod _ = _); exact p_mod (by omega)) | (focus (with_reducible show prim .fdiv _ = _); exact p_fdiv ⟨by omega, by omega⟩) | (focus (with_reducible show prim .mul _ = _); first | exact p_mul2 ⟨by omega, by omega⟩ | exact p_mul1 ⟨by omega, by omega⟩) | (focus (with_reducible show prim _ _ = _); first  | exact p_ixL hs | rfl) | (focus (with_reducible show getS _ _ = _); rfl) | (focus (with_reducible show truth _ = _); rfl) | (focus (with_reducible show takeA _ _ _ = _); rfl) | (focus (with_reducible show setO _ _ _ = _); rfl) | (focus (with_reducible show plainS _ _ = _); rfl) | (focus (with_reducible show iterD _ _ = _); rfl) | (focus (with_reducible show bindT _ _ _ = _); rfl) | (focus (with_reducible show O.frz _ = _); rfl) | (focus (with_reducible show rcv _ _ = _); rfl) | (focus (with_reducible show getElem? _ _ = _); rfl) | (focus (with_reducible show _ ≤ sizeLine); exact sz_le rfl) | (focus (with_reducible show _ < sizeLine); exact sz_lt rfl) | (focus (with_reducible show flK (.rt _) _ _ = _); exact fl_rt) | (focus (with_reducible show fgK (.rt _) _ _ = _); exact fg_rt) | (focus (with_reducible show List.length _ = _); rfl))
    · rfl
  · obtain ⟨r2, a2, g0, g1, d2⟩ := draw_ok n a1 b 8 (by decide) (by decide)
    have hit : iterD .rng1 [.int (1 + r2)] = some (rngL 0 (1 + r2).toNat) := by
      show (if _ then _ else _) = _
      rw [if_pos (by omega)]
    have comp : ∃ ds ρ', compGo (cStep B.G B.CL (evF B (n + 1)) (.one 3) [] (.op .idx [.var 1, .call 13 [.rf 0, .lit (.int 7)]])) (rngL 0 (1 + r2).toNat) [some (.lst [.int a2, .int b]), some (.val (.str "abdelsu")), some (.val (.lst soD)), none] = some (ds, ρ') ∧
        ∃ a3 ys, allStr ds = some ys ∧ (ys.map (·.length)).sum + ys.length * (0 : Nat) ≤ 16777216 ∧ ds.length ≤ sizeLine ∧ ρ' = [some (.lst [.int a3, .int b]), some (.val (.str "abdelsu")), some (.val (.lst soD)), none] := by
      obtain ⟨ds, ρ', h, a3, ys, hy, hl, hn, hρ⟩ := c_all (step := cStep B.G B.CL (evF B (n + 1)) (.one 3) [] (.op .idx [.var 1, .call 13 [.rf 0, .lit (.int 7)]])) (fun k acc ρ => ∃ a3 ys, allStr acc = some ys ∧ (∀ y ∈ ys, y.length = 1) ∧ (ys.length = k ∧ acc.length = k) ∧ ρ = [some (.lst [.int a3, .int b]), some (.val (.str "abdelsu")), some (.val (.lst soD)), none]) (rngL 0 (1 + r2).toNat) 0 [] _ ⟨a2, [], rfl, by simp, ⟨rfl, rfl⟩, rfl⟩ (by
        rintro j x acc ρ hx ⟨a3, ys, hy, hl, ⟨hk, hk2⟩, rfl⟩
        obtain ⟨_, rfl⟩ := rngL_get hx
        obtain ⟨r4, a4, g0, g1, d4⟩ := draw_ok n a3 b 7 (by decide) (by decide)
        obtain ⟨c, hc⟩ := atI_cps (xs := ("abdelsu" : Str).cps.toList) (i := r4) g0 g1
        refine ⟨some (sign c), _, ?_, a4, ys ++ [⟨#[c]⟩], by show allStr (acc ++ [.str ⟨#[c]⟩]) = _; exact allStr_snoc hy, ?_, ?_, rfl⟩
        · apply cs_0e
          · rfl
          · repeat (first | with_reducible exact r_lit | with_reducible exact f_nil | with_reducible exact o_nil | with_reducible exact v_nil | with_reducible exact a_nil | with_reducible exact ss_nil | with_reducible exact s_retN | with_reducible exact s_pass | with_reducible exact s_brk | with_reducible exact s_cont | with_reducible exact fl_rt | with_reducible exact fl_bk | with_reducible exact fl_ct | with_reducible exact fg_bk | with_reducible exact fg_rt | with_reducible exact r_dct | with_reducible apply ss_cons | with_reducible apply f_cons | with_reducible apply s_for | with_reducible apply s_asg | with_reducible apply s_ret | with_reducible apply s_ite | with_reducible apply s_expr | with_reducible apply s_app | with_reducible apply s_setI | with_reducible apply s_unp | with_reducible apply s_aug | with_reducible apply s_rev | with_reducible apply fl_nx | with_reducible apply fg_nx | with_reducible apply fg_ct | with_reducible apply r_var | with_reducible apply r_op | with_reducible apply t_op | with_reducible apply r_mv | with_reducible apply r_sh | with_reducible apply r_glob | with_reducible apply r_bw | with_reducible apply t_bw | with_reducible apply t_var | with_reducible apply t_lit | with_reducible apply r_mopB | with_reducible apply (r_mop rfl) | with_reducible apply t_mop | with_reducible apply r_tup | with_reducible apply r_lst | with_reducible apply r_and | with_reducible apply r_or | with_reducible apply r_not | with_reducible apply r_ite | with_reducible apply r_cmp2 | with_reducible apply r_cmp2z | with_reducible apply r_call | with_reducible apply t_call | with_reducible apply r_meth | with_reducible apply t_meth | with_reducible apply r_new | with_reducible apply r_frz | with_reducible apply r_pop | with_reducible apply r_popAt | with_reducible apply o_bw | with_reducible apply (o_cons rfl) | with_reducible apply v_cons | with_reducible apply a_rf | with_reducible apply (a_cons rfl) | (focus (with_reducible show evF _ _ 13 _ = _); exact d4) | ((with_reducible apply cond_t); focus (first | rfl | assumption | (simp [*]; done))) | ((with_reducible apply cond_f); focus (first | rfl | assumption | (simp [*]; done))) | (focus (with_reducible show prim .mod _ = _); exact p_mod (by omega)) | (focus (with_reducible show prim .fdiv _ = _); exact p_fdiv ⟨by omega, by omega⟩) | (focus (with_reducible show prim .mul _ = _); first | exact p_mul2 ⟨by omega, by omega⟩ | exact p_mul1 ⟨by omega, by omega⟩) | (focus (with_reducible show prim _ _ = _); first  | exact p_ixS (sz_le rfl) hc | rfl) | (focus (with_reducible show getS _ _ = _); rfl) | (focus (with_reducible show truth _ = _); rfl) | (focus (with_reducible show takeA _ _ _ = _); rfl) | (focus (with_reducible show setO _ _ _ = _); rfl) | (focus (with_reducible show plainS _ _ = _); rfl) | (focus (with_reducible show iterD _ _ = _); rfl) | (focus (with_reducible show bindT _ _ _ = _); rfl) | (focus (with_reducible show O.frz _ = _); rfl) | (focus (with_reducible show rcv _ _ = _); rfl) | (focus (with_reducible show getElem? _ _ = _); rfl) | (focus (with_reducible show _ ≤ sizeLine); exact sz_le rfl) | (focus (with_reducible show _ < sizeLine); exact sz_lt rfl) | (focus (with_reducible show flK (.rt _) _ _ = _); exact fl_rt) | (focus (with_reducible show fgK (.rt _) _ _ = _); exact fg_rt) | (focus (with_reducible show List.length _ = _); rfl))
          · rfl
          · rfl
        · intro y hy'
          rcases List.mem_append.mp hy' with h | h
          · exact hl y h
          · simp at h; subst h; rfl
        · simp; omega)
      simp only [Nat.zero_add, List.nil_append] at hl hn hy
      have hlen : (rngL 0 (1 + r2).toNat).length ≤ 100 := by simp [rngL]; omega
      refine ⟨ds, ρ', h, a3, ys, hy, ?_, ?_, hρ⟩
      · have : ∀ l : List Str, (∀ y ∈ l, y.length = 1) → (l.map (·.length)).sum = l.length := by
          intro l
          induction l with
          | nil => intro _; rfl
          | cons z l ih => intro hz; simp only [List.map_cons, List.sum_cons, List.length_cons]; rw [hz z (by simp), ih fun y hy => hz y (by simp [hy])]; omega
        rw [this ys hl]; omega
      · exact Nat.le_trans (by omega : ds.length ≤ 1000) (sz_le rfl)
    obtain ⟨ds, ρ', hc, a3, ys, hy, hz, hl, rfl⟩ := comp
    refine ⟨Txt.join "" ys, a3, ?_⟩
    apply r_fn (F := ⟨1, 4, none, b5⟩) rfl rfl
    · unfold b5
      dsimp only
      repeat (first | with_reducible exact r_lit | with_reducible exact f_nil | with_reducible exact o_nil | with_reducible exact v_nil | with_reducible exact a_nil | with_reducible exact ss_nil | with_reducible exact s_retN | with_reducible exact s_pass | with_reducible exact s_brk | with_reducible exact s_cont | with_reducible exact fl_rt | with_reducible exact fl_bk | with_reducible exact fl_ct | with_reducible exact fg_bk | with_reducible exact fg_rt | with_reducible exact r_dct | with_reducible apply ss_cons | with_reducible apply f_cons | with_reducible apply s_for | with_reducible apply s_asg | with_reducible apply s_ret | with_reducible apply s_ite | with_reducible apply s_expr | with_reducible apply s_app | with_reducible apply s_setI | with_reducible apply s_unp | with_reducible apply s_aug | with_reducible apply s_rev | with_reducible apply fl_nx | with_reducible apply fg_nx | with_reducible apply fg_ct | with_reducible apply r_var | with_reducible apply r_op | with_reducible apply t_op | with_reducible apply r_mv | with_reducible apply r_sh | with_reducible apply r_glob | with_reducible apply r_bw | with_reducible apply t_bw | with_reducible apply t_var | with_reducible apply t_lit | with_reducible apply r_mopB | with_reducible apply (r_mop rfl) | with_reducible apply t_mop | with_reducible apply r_tup | with_reducible apply r_lst | with_reducible apply r_and | with_reducible apply r_or | with_reducible apply r_not | with_reducible apply r_ite | with_reducible apply r_cmp2 | with_reducible apply r_cmp2z | with_reducible apply r_call | with_reducible apply t_call | with_reducible apply r_meth | with_reducible apply t_meth | with_reducible apply r_new | with_reducible apply r_frz | with_reducible apply r_pop | with_reducible apply r_popAt | with_reducible apply o_bw | with_reducible apply (o_cons rfl) | with_reducible apply v_cons | with_reducible apply a_rf | with_reducible apply (a_cons rfl) | (focus (with_reducible show evF _ _ 13 _ = _); first | exact d1 | exact d2) | with_reducible apply r_comp | (focus (with_reducible show iterD .rng1 _ = _); exact hit) | (focus (with_reducible show compGo _ _ _ = _); exact hc) | exact hl | ((with_reducible apply cond_t); focus (first | rfl | assumption | (simp [*]; done))) | ((with_reducible apply cond_f); focus (first | rfl | assumption | (simp [*]; done))) | (focus (with_reducible show prim .mod _ = _); exact p_mod (by omega)) | (focus (with_reducible show prim .fdiv _ = _); exact p_fdiv ⟨by omega, by omega⟩) | (focus (with_reducible show prim .mul _ = _); first | exact p_mul2 ⟨by omega, by omega⟩ | exact p_mul1 ⟨by omega, by omega⟩) | (focus (with_reducible show prim _ _ = _); first  | exact p_join hy hz | rfl) | (focus (with_reducible show getS _ _ = _); rfl) | (focus (with_reducible show truth _ = _); rfl) | (focus (with_reducible show takeA _ _ _ = _); rfl) | (focus (with_reducible show setO _ _ _ = _); rfl) | (focus (with_reducible show plainS _ _ = _); rfl) | (focus (with_reducible show iterD _ _ = _); rfl) | (focus (with_reducible show bindT _ _ _ = _); rfl) | (focus (with_reducible show O.frz _ = _); rfl) | (focus (with_reducible show rcv _ _ = _); rfl) | (focus (with_reducible show getElem? _ _ = _); rfl) | (focus (with_reducible show _ ≤ sizeLine); exact sz_le rfl) | (focus (with_reducible show _ < sizeLine); exact sz_lt rfl) | (focus (with_reducible show flK (.rt _) _ _ = _); exact fl_rt) | (focus (with_reducible show fgK (.rt _) _ _ = _); exact fg_rt) | (focus (with_reducible show List.length _ = _); rfl))
    · rfl

def bodyL : List S := match b0 with
  | [_, _, _, _, .for _ _ _ b, _] => b
  | _ => []
theorem sho_ok (n : Nat) (s : Str) : evF B (n + 1) 9 [.val woD, .val (.str s)] = some (.val .non, [some (.val woD), some (.val (.str s))]) := by rfl
theorem shc_ok (n : Nat) (s : Str) : evF B (n + 1) 8 [.val woD, .val (.str s)] = some (.val .non, [some (.val woD), some (.val (.str s))]) := by rfl
theorem clc_ok (n : Nat) (s : Str) : evF B (n + 1) 11 [.val woD, .val (.str s)] = some (.val .non, [some (.val woD), some (.val (.str s))]) := by rfl
theorem cld_ok (n : Nat) (s : Str) : evF B (n + 1) 14 [.val woD, .val (.str s)] = some (.val .non, [some (.val woD), some (.val (.str s))]) := by rfl
theorem hou_ok (n : Nat) (s t : Str) : evF B (n + 1) 10 [.val woD, .val (.str s), .val (.str t)] = some (.val .non, [some (.val woD), some (.val (.str s)), some (.val (.str t))]) := by rfl
theorem nam_no (n : Nat) (s : Str) (h1 : ¬ ("add" : Str) = s) (h2 : ¬ ("sub" : Str) = s) (h3 : ¬ ("less" : Str) = s) : evF B (n + 1) 7 [.val woD, .val (.str s)] = some (.val .non, [some (.val woD), some (.val (.str s))]) := by
  apply r_fn (F := ⟨2, 3, some 0, b7⟩) rfl rfl
  · unfold b7
    dsimp only
    repeat (first | with_reducible exact r_lit | with_reducible exact f_nil | with_reducible exact o_nil | with_reducible exact v_nil | with_reducible exact a_nil | with_reducible exact ss_nil | with_reducible exact s_retN | with_reducible exact s_pass | with_reducible exact s_brk | with_reducible exact s_cont | with_reducible exact fl_rt | with_reducible exact fl_bk | with_reducible exact fl_ct | with_reducible exact fg_bk | with_reducible exact fg_rt | with_reducible exact r_dct | with_reducible apply ss_cons | with_reducible apply f_cons | with_reducible apply s_for | with_reducible apply s_asg | with_reducible apply s_ret | with_reducible apply s_ite | with_reducible apply s_expr | with_reducible apply s_app | with_reducible apply s_setI | with_reducible apply s_unp | with_reducible apply s_aug | with_reducible apply s_rev | with_reducible apply fl_nx | with_reducible apply fg_nx | with_reducible apply fg_ct | with_reducible apply r_var | with_reducible apply r_op | with_reducible apply t_op | with_reducible apply r_mv | with_reducible apply r_sh | with_reducible apply r_glob | with_reducible apply r_bw | with_reducible apply t_bw | with_reducible apply t_var | with_reducible apply t_lit | with_reducible apply r_mopB | with_reducible apply (r_mop rfl) | with_reducible apply t_mop | with_reducible apply r_tup | with_reducible apply r_lst | with_reducible apply r_and | with_reducible apply r_or | with_reducible apply r_not | with_reducible apply r_ite | with_reducible apply r_cmp2 | with_reducible apply r_cmp2z | with_reducible apply r_call | with_reducible apply t_call | with_reducible apply r_meth | with_reducible apply t_meth | with_reducible apply r_new | with_reducible apply r_frz | with_reducible apply r_pop | with_reducible apply r_popAt | with_reducible apply o_bw | with_reducible apply (o_cons rfl) | with_reducible apply v_cons | with_reducible apply a_rf | with_reducible apply (a_cons rfl) | ((with_reducible apply cond_t); focus (first | rfl | assumption | (simp [*]; done))) | ((with_reducible apply cond_f); focus (first | rfl | assumption | (simp [*]; done))) | (focus (with_reducible show prim .mod _ = _); exact p_mod (by omega)) | (focus (with_reducible show prim .fdiv _ = _); exact p_fdiv ⟨by omega, by omega⟩) | (focus (with_reducible show prim .mul _ = _); first | exact p_mul2 ⟨by omega, by omega⟩ | exact p_mul1 ⟨by omega, by omega⟩) | (focus (with_reducible show prim _ _ = _); first  | rfl) | (focus (with_reducible show getS _ _ = _); rfl) | (focus (with_reducible show truth _ = _); rfl) | (focus (with_reducible show takeA _ _ _ = _); rfl) | (focus (with_reducible show setO _ _ _ = _); rfl) | (focus (with_reducible show plainS _ _ = _); rfl) | (focus (with_reducible show iterD _ _ = _); rfl) | (focus (with_reducible show bindT _ _ _ = _); rfl) | (focus (with_reducible show O.frz _ = _); rfl) | (focus (with_reducible show rcv _ _ = _); rfl) | (focus (with_reducible show getElem? _ _ = _); rfl) | (focus (with_reducible show _ ≤ sizeLine); exact sz_le rfl) | (focus (with_reducible show _ < sizeLine); exact sz_lt rfl) | (focus (with_reducible show flK (.rt _) _ _ = _); exact fl_rt) | (focus (with_reducible show fgK (.rt _) _ _ = _); exact fg_rt) | (focus (with_reducible show List.length _ = _); rfl))
  · rfl
theorem sch_no (n : Nat) (s : Str) (h1 : ¬ ("add" : Str) = s) (h2 : ¬ ("sub" : Str) = s) (h3 : ¬ ("less" : Str) = s) : evF B (n + 2) 6 [.val woD, .val (.str s)] = some (.val .non, [some (.val woD), some (.val (.str s))]) := by
  apply r_fn (F := ⟨2, 4, some 0, b6⟩) rfl rfl
  · unfold b6
    dsimp only
    repeat (first | with_reducible exact r_lit | with_reducible exact f_nil | with_reducible exact o_nil | with_reducible exact v_nil | with_reducible exact a_nil | with_reducible exact ss_nil | with_reducible exact s_retN | with_reducible exact s_pass | with_reducible exact s_brk | with_reducible exact s_cont | with_reducible exact fl_rt | with_reducible exact fl_bk | with_reducible exact fl_ct | with_reducible exact fg_bk | with_reducible exact fg_rt | with_reducible exact r_dct | with_reducible apply ss_cons | with_reducible apply f_cons | with_reducible apply s_for | with_reducible apply s_asg | with_reducible apply s_ret | with_reducible apply s_ite | with_reducible apply s_expr | with_reducible apply s_app | with_reducible apply s_setI | with_reducible apply s_unp | with_reducible apply s_aug | with_reducible apply s_rev | with_reducible apply fl_nx | with_reducible apply fg_nx | with_reducible apply fg_ct | with_reducible apply r_var | with_reducible apply r_op | with_reducible apply t_op | with_reducible apply r_mv | with_reducible apply r_sh | with_reducible apply r_glob | with_reducible apply r_bw | with_reducible apply t_bw | with_reducible apply t_var | with_reducible apply t_lit | with_reducible apply r_mopB | with_reducible apply (r_mop rfl) | with_reducible apply t_mop | with_reducible apply r_tup | with_reducible apply r_lst | with_reducible apply r_and | with_reducible apply r_or | with_reducible apply r_not | with_reducible apply r_ite | with_reducible apply r_cmp2 | with_reducible apply r_cmp2z | with_reducible apply r_call | with_reducible apply t_call | with_reducible apply r_meth | with_reducible apply t_meth | with_reducible apply r_new | with_reducible apply r_frz | with_reducible apply r_pop | with_reducible apply r_popAt | with_reducible apply o_bw | with_reducible apply (o_cons rfl) | with_reducible apply v_cons | with_reducible apply a_rf | with_reducible apply (a_cons rfl) | (focus (with_reducible show evF _ _ 7 _ = _); exact nam_no n s h1 h2 h3) | (focus (with_reducible show evF _ _ 14 _ = _); exact cld_ok n s) | ((with_reducible apply cond_t); focus (first | rfl | assumption | (simp [*]; done))) | ((with_reducible apply cond_f); focus (first | rfl | assumption | (simp [*]; done))) | (focus (with_reducible show prim .mod _ = _); exact p_mod (by omega)) | (focus (with_reducible show prim .fdiv _ = _); exact p_fdiv ⟨by omega, by omega⟩) | (focus (with_reducible show prim .mul _ = _); first | exact p_mul2 ⟨by omega, by omega⟩ | exact p_mul1 ⟨by omega, by omega⟩) | (focus (with_reducible show prim _ _ = _); first  | rfl) | (focus (with_reducible show getS _ _ = _); rfl) | (focus (with_reducible show truth _ = _); rfl) | (focus (with_reducible show takeA _ _ _ = _); rfl) | (focus (with_reducible show setO _ _ _ = _); rfl) | (focus (with_reducible show plainS _ _ = _); rfl) | (focus (with_reducible show iterD _ _ = _); rfl) | (focus (with_reducible show bindT _ _ _ = _); rfl) | (focus (with_reducible show O.frz _ = _); rfl) | (focus (with_reducible show rcv _ _ = _); rfl) | (focus (with_reducible show getElem? _ _ = _); rfl) | (focus (with_reducible show _ ≤ sizeLine); exact sz_le rfl) | (focus (with_reducible show _ < sizeLine); exact sz_lt rfl) | (focus (with_reducible show flK (.rt _) _ _ = _); exact fl_rt) | (focus (with_reducible show fgK (.rt _) _ _ = _); exact fg_rt) | (focus (with_reducible show List.length _ = _); rfl))
  · rfl
def fnD (x : Str) : EV.D := .tup [.tup [], .tup [], .tup [.str "fun", .tup [.str "num"], .tup [.str "fun", .tup [.str "num"], .tup [.str x]]]]
def enD (x y : Str) : EV.D := .tup [.str x, fnD y, .non, .non]
theorem nam_a (n : Nat) : evF B (n + 1) 7 [.val woD, .val (.str "add")] = some (.val (enD "add" "num"), [some (.val woD), some (.val (.str "add"))]) := by rfl
theorem nam_s (n : Nat) : evF B (n + 1) 7 [.val woD, .val (.str "sub")] = some (.val (enD "sub" "num"), [some (.val woD), some (.val (.str "sub"))]) := by rfl
theorem nam_l (n : Nat) : evF B (n + 1) 7 [.val woD, .val (.str "less")] = some (.val (enD "less" "truth"), [some (.val woD), some (.val (.str "less"))]) := by rfl
theorem sch_a (n : Nat) : evF B (n + 2) 6 [.val woD, .val (.str "add")] = some (.val (fnD "num"), [some (.val woD), some (.val (.str "add"))]) := by rfl
theorem sch_s (n : Nat) : evF B (n + 2) 6 [.val woD, .val (.str "sub")] = some (.val (fnD "num"), [some (.val woD), some (.val (.str "sub"))]) := by rfl
theorem sch_l (n : Nat) : evF B (n + 2) 6 [.val woD, .val (.str "less")] = some (.val (fnD "truth"), [some (.val woD), some (.val (.str "less"))]) := by rfl
theorem ne_1 : prim .ne [enD "add" "num", enD "add" "num"] = some (.val (.bl false)) := by kernel_rfl
theorem ne_2 : prim .ne [enD "sub" "num", enD "sub" "num"] = some (.val (.bl false)) := by kernel_rfl
theorem ne_3 : prim .ne [enD "less" "truth", enD "less" "truth"] = some (.val (.bl false)) := by kernel_rfl
theorem ne_4 : prim .ne [fnD "num", fnD "num"] = some (.val (.bl false)) := by kernel_rfl
theorem ne_5 : prim .ne [fnD "truth", fnD "truth"] = some (.val (.bl false)) := by kernel_rfl
theorem ne_6 : prim .ne [duD, duD] = some (.val (.bl false)) := by kernel_rfl
theorem ne_7 : prim .ne [.tup [.tup [], .tup [], .tup []], .tup [.tup [], .tup [], .tup []]] = some (.val (.bl false)) := by kernel_rfl
set_option maxHeartbeats 0 in
theorem turn_ok (n : Nat) (ns : List Int) (hl : ns.length ≤ 63) (j : Nat) (hj : j < 100) (x4 x5 x6 x7 x8 : Option O) :
    ∃ ρ2, evSs B.G B.CL B.W (evF B (n + 5)) bodyL [some (.val (.lst (ns.map .int))), some (.val duD), some (.val woD), some (.val (.int j)), x4, x5, x6, x7, x8] = some (.nx, ρ2) ∧ ∃ y3 y4 y5 y6 y7 y8, ρ2 = [some (.val (.lst (ns.map .int))), some (.val duD), some (.val woD), y3, y4, y5, y6, y7, y8] := by
  obtain ⟨c, hc⟩ := at_ok (n + 4) ns hl j hj
  obtain ⟨s, a', hs⟩ := name_ok (n + 3) (c / 2) (c % 2)
  have t1 := sho_ok (n + 4) s
  have t2 := shc_ok (n + 4) s
  have t3 := clc_ok (n + 4) s
  have t4 := hou_ok (n + 4) s "num"
  by_cases h1 : ("add" : Str) = s
  · subst h1
    apply Exists.intro
    apply And.intro
    · unfold bodyL b0
      dsimp only
      repeat (first | with_reducible exact r_lit | with_reducible exact f_nil | with_reducible exact o_nil | with_reducible exact v_nil | with_reducible exact a_nil | with_reducible exact ss_nil | with_reducible exact s_retN | with_reducible exact s_pass | with_reducible exact s_brk | with_reducible exact s_cont | with_reducible exact fl_rt | with_reducible exact fl_bk | with_reducible exact fl_ct | with_reducible exact fg_bk | with_reducible exact fg_rt | with_reducible exact r_dct | with_reducible apply ss_cons | with_reducible apply f_cons | with_reducible apply s_for | with_reducible apply s_asg | with_reducible apply s_ret | with_reducible apply s_ite | with_reducible apply s_expr | with_reducible apply s_app | with_reducible apply s_setI | with_reducible apply s_unp | with_reducible apply s_aug | with_reducible apply s_rev | with_reducible apply fl_nx | with_reducible apply fg_nx | with_reducible apply fg_ct | with_reducible apply r_var | with_reducible apply r_op | with_reducible apply t_op | with_reducible apply r_mv | with_reducible apply r_sh | with_reducible apply r_glob | with_reducible apply r_bw | with_reducible apply t_bw | with_reducible apply t_var | with_reducible apply t_lit | with_reducible apply r_mopB | with_reducible apply (r_mop rfl) | with_reducible apply t_mop | with_reducible apply r_tup | with_reducible apply r_lst | with_reducible apply r_and | with_reducible apply r_or | with_reducible apply r_not | with_reducible apply r_ite | with_reducible apply r_cmp2 | with_reducible apply r_cmp2z | with_reducible apply r_call | with_reducible apply t_call | with_reducible apply r_meth | with_reducible apply t_meth | with_reducible apply r_new | with_reducible apply r_frz | with_reducible apply r_pop | with_reducible apply r_popAt | with_reducible apply o_bw | with_reducible apply (o_cons rfl) | with_reducible apply v_cons | with_reducible apply a_rf | with_reducible apply (a_cons rfl) | (focus (with_reducible show evF _ _ 4 _ = _); exact hc) | (focus (with_reducible show evF _ _ 3 _ = _); exact beg_ok (n + 4) c) | (focus (with_reducible show evF _ _ 5 _ = _); exact hs) | (focus (with_reducible show evF _ _ 9 _ = _); exact t1) | (focus (with_reducible show evF _ _ 8 _ = _); exact t2) | (focus (with_reducible show evF _ _ 11 _ = _); exact t3) | (focus (with_reducible show evF _ _ 10 _ = _); exact t4) | (focus (with_reducible show evF _ _ 7 _ = _); exact nam_a (n + 4)) | (focus (with_reducible show evF _ _ 6 _ = _); exact sch_a (n + 3)) | ((with_reducible apply cond_t); focus (first | rfl | assumption | (simp [*]; done))) | ((with_reducible apply cond_f); focus (first | rfl | assumption | (simp [*]; done))) | (focus (with_reducible show prim .mod _ = _); exact p_mod (by omega)) | (focus (with_reducible show prim .fdiv _ = _); exact p_fdiv ⟨by omega, by omega⟩) | (focus (with_reducible show prim .mul _ = _); first | exact p_mul2 ⟨by omega, by omega⟩ | exact p_mul1 ⟨by omega, by omega⟩) | (focus (with_reducible show prim _ _ = _); first  | exact ne_1 | exact ne_4 | rfl) | (focus (with_reducible show getS _ _ = _); rfl) | (focus (with_reducible show truth _ = _); rfl) | (focus (with_reducible show takeA _ _ _ = _); rfl) | (focus (with_reducible show setO _ _ _ = _); rfl) | (focus (with_reducible show plainS _ _ = _); rfl) | (focus (with_reducible show iterD _ _ = _); rfl) | (focus (with_reducible show bindT _ _ _ = _); rfl) | (focus (with_reducible show O.frz _ = _); rfl) | (focus (with_reducible show rcv _ _ = _); rfl) | (focus (with_reducible show getElem? _ _ = _); rfl) | (focus (with_reducible show _ ≤ sizeLine); exact sz_le rfl) | (focus (with_reducible show _ < sizeLine); exact sz_lt rfl) | (focus (with_reducible show flK (.rt _) _ _ = _); exact fl_rt) | (focus (with_reducible show fgK (.rt _) _ _ = _); exact fg_rt) | (focus (with_reducible show List.length _ = _); rfl))
    · exact ⟨_, _, _, _, _, _, rfl⟩
  by_cases h2 : ("sub" : Str) = s
  · subst h2
    apply Exists.intro
    apply And.intro
    · unfold bodyL b0
      dsimp only
      repeat (first | with_reducible exact r_lit | with_reducible exact f_nil | with_reducible exact o_nil | with_reducible exact v_nil | with_reducible exact a_nil | with_reducible exact ss_nil | with_reducible exact s_retN | with_reducible exact s_pass | with_reducible exact s_brk | with_reducible exact s_cont | with_reducible exact fl_rt | with_reducible exact fl_bk | with_reducible exact fl_ct | with_reducible exact fg_bk | with_reducible exact fg_rt | with_reducible exact r_dct | with_reducible apply ss_cons | with_reducible apply f_cons | with_reducible apply s_for | with_reducible apply s_asg | with_reducible apply s_ret | with_reducible apply s_ite | with_reducible apply s_expr | with_reducible apply s_app | with_reducible apply s_setI | with_reducible apply s_unp | with_reducible apply s_aug | with_reducible apply s_rev | with_reducible apply fl_nx | with_reducible apply fg_nx | with_reducible apply fg_ct | with_reducible apply r_var | with_reducible apply r_op | with_reducible apply t_op | with_reducible apply r_mv | with_reducible apply r_sh | with_reducible apply r_glob | with_reducible apply r_bw | with_reducible apply t_bw | with_reducible apply t_var | with_reducible apply t_lit | with_reducible apply r_mopB | with_reducible apply (r_mop rfl) | with_reducible apply t_mop | with_reducible apply r_tup | with_reducible apply r_lst | with_reducible apply r_and | with_reducible apply r_or | with_reducible apply r_not | with_reducible apply r_ite | with_reducible apply r_cmp2 | with_reducible apply r_cmp2z | with_reducible apply r_call | with_reducible apply t_call | with_reducible apply r_meth | with_reducible apply t_meth | with_reducible apply r_new | with_reducible apply r_frz | with_reducible apply r_pop | with_reducible apply r_popAt | with_reducible apply o_bw | with_reducible apply (o_cons rfl) | with_reducible apply v_cons | with_reducible apply a_rf | with_reducible apply (a_cons rfl) | (focus (with_reducible show evF _ _ 4 _ = _); exact hc) | (focus (with_reducible show evF _ _ 3 _ = _); exact beg_ok (n + 4) c) | (focus (with_reducible show evF _ _ 5 _ = _); exact hs) | (focus (with_reducible show evF _ _ 9 _ = _); exact t1) | (focus (with_reducible show evF _ _ 8 _ = _); exact t2) | (focus (with_reducible show evF _ _ 11 _ = _); exact t3) | (focus (with_reducible show evF _ _ 10 _ = _); exact t4) | (focus (with_reducible show evF _ _ 7 _ = _); exact nam_s (n + 4)) | (focus (with_reducible show evF _ _ 6 _ = _); exact sch_s (n + 3)) | ((with_reducible apply cond_t); focus (first | rfl | assumption | (simp [*]; done))) | ((with_reducible apply cond_f); focus (first | rfl | assumption | (simp [*]; done))) | (focus (with_reducible show prim .mod _ = _); exact p_mod (by omega)) | (focus (with_reducible show prim .fdiv _ = _); exact p_fdiv ⟨by omega, by omega⟩) | (focus (with_reducible show prim .mul _ = _); first | exact p_mul2 ⟨by omega, by omega⟩ | exact p_mul1 ⟨by omega, by omega⟩) | (focus (with_reducible show prim _ _ = _); first  | exact ne_2 | exact ne_4 | rfl) | (focus (with_reducible show getS _ _ = _); rfl) | (focus (with_reducible show truth _ = _); rfl) | (focus (with_reducible show takeA _ _ _ = _); rfl) | (focus (with_reducible show setO _ _ _ = _); rfl) | (focus (with_reducible show plainS _ _ = _); rfl) | (focus (with_reducible show iterD _ _ = _); rfl) | (focus (with_reducible show bindT _ _ _ = _); rfl) | (focus (with_reducible show O.frz _ = _); rfl) | (focus (with_reducible show rcv _ _ = _); rfl) | (focus (with_reducible show getElem? _ _ = _); rfl) | (focus (with_reducible show _ ≤ sizeLine); exact sz_le rfl) | (focus (with_reducible show _ < sizeLine); exact sz_lt rfl) | (focus (with_reducible show flK (.rt _) _ _ = _); exact fl_rt) | (focus (with_reducible show fgK (.rt _) _ _ = _); exact fg_rt) | (focus (with_reducible show List.length _ = _); rfl))
    · exact ⟨_, _, _, _, _, _, rfl⟩
  by_cases h3 : ("less" : Str) = s
  · subst h3
    apply Exists.intro
    apply And.intro
    · unfold bodyL b0
      dsimp only
      repeat (first | with_reducible exact r_lit | with_reducible exact f_nil | with_reducible exact o_nil | with_reducible exact v_nil | with_reducible exact a_nil | with_reducible exact ss_nil | with_reducible exact s_retN | with_reducible exact s_pass | with_reducible exact s_brk | with_reducible exact s_cont | with_reducible exact fl_rt | with_reducible exact fl_bk | with_reducible exact fl_ct | with_reducible exact fg_bk | with_reducible exact fg_rt | with_reducible exact r_dct | with_reducible apply ss_cons | with_reducible apply f_cons | with_reducible apply s_for | with_reducible apply s_asg | with_reducible apply s_ret | with_reducible apply s_ite | with_reducible apply s_expr | with_reducible apply s_app | with_reducible apply s_setI | with_reducible apply s_unp | with_reducible apply s_aug | with_reducible apply s_rev | with_reducible apply fl_nx | with_reducible apply fg_nx | with_reducible apply fg_ct | with_reducible apply r_var | with_reducible apply r_op | with_reducible apply t_op | with_reducible apply r_mv | with_reducible apply r_sh | with_reducible apply r_glob | with_reducible apply r_bw | with_reducible apply t_bw | with_reducible apply t_var | with_reducible apply t_lit | with_reducible apply r_mopB | with_reducible apply (r_mop rfl) | with_reducible apply t_mop | with_reducible apply r_tup | with_reducible apply r_lst | with_reducible apply r_and | with_reducible apply r_or | with_reducible apply r_not | with_reducible apply r_ite | with_reducible apply r_cmp2 | with_reducible apply r_cmp2z | with_reducible apply r_call | with_reducible apply t_call | with_reducible apply r_meth | with_reducible apply t_meth | with_reducible apply r_new | with_reducible apply r_frz | with_reducible apply r_pop | with_reducible apply r_popAt | with_reducible apply o_bw | with_reducible apply (o_cons rfl) | with_reducible apply v_cons | with_reducible apply a_rf | with_reducible apply (a_cons rfl) | (focus (with_reducible show evF _ _ 4 _ = _); exact hc) | (focus (with_reducible show evF _ _ 3 _ = _); exact beg_ok (n + 4) c) | (focus (with_reducible show evF _ _ 5 _ = _); exact hs) | (focus (with_reducible show evF _ _ 9 _ = _); exact t1) | (focus (with_reducible show evF _ _ 8 _ = _); exact t2) | (focus (with_reducible show evF _ _ 11 _ = _); exact t3) | (focus (with_reducible show evF _ _ 10 _ = _); exact t4) | (focus (with_reducible show evF _ _ 7 _ = _); exact nam_l (n + 4)) | (focus (with_reducible show evF _ _ 6 _ = _); exact sch_l (n + 3)) | ((with_reducible apply cond_t); focus (first | rfl | assumption | (simp [*]; done))) | ((with_reducible apply cond_f); focus (first | rfl | assumption | (simp [*]; done))) | (focus (with_reducible show prim .mod _ = _); exact p_mod (by omega)) | (focus (with_reducible show prim .fdiv _ = _); exact p_fdiv ⟨by omega, by omega⟩) | (focus (with_reducible show prim .mul _ = _); first | exact p_mul2 ⟨by omega, by omega⟩ | exact p_mul1 ⟨by omega, by omega⟩) | (focus (with_reducible show prim _ _ = _); first  | exact ne_3 | exact ne_5 | rfl) | (focus (with_reducible show getS _ _ = _); rfl) | (focus (with_reducible show truth _ = _); rfl) | (focus (with_reducible show takeA _ _ _ = _); rfl) | (focus (with_reducible show setO _ _ _ = _); rfl) | (focus (with_reducible show plainS _ _ = _); rfl) | (focus (with_reducible show iterD _ _ = _); rfl) | (focus (with_reducible show bindT _ _ _ = _); rfl) | (focus (with_reducible show O.frz _ = _); rfl) | (focus (with_reducible show rcv _ _ = _); rfl) | (focus (with_reducible show getElem? _ _ = _); rfl) | (focus (with_reducible show _ ≤ sizeLine); exact sz_le rfl) | (focus (with_reducible show _ < sizeLine); exact sz_lt rfl) | (focus (with_reducible show flK (.rt _) _ _ = _); exact fl_rt) | (focus (with_reducible show fgK (.rt _) _ _ = _); exact fg_rt) | (focus (with_reducible show List.length _ = _); rfl))
    · exact ⟨_, _, _, _, _, _, rfl⟩
  apply Exists.intro
  apply And.intro
  · unfold bodyL b0
    dsimp only
    repeat (first | with_reducible exact r_lit | with_reducible exact f_nil | with_reducible exact o_nil | with_reducible exact v_nil | with_reducible exact a_nil | with_reducible exact ss_nil | with_reducible exact s_retN | with_reducible exact s_pass | with_reducible exact s_brk | with_reducible exact s_cont | with_reducible exact fl_rt | with_reducible exact fl_bk | with_reducible exact fl_ct | with_reducible exact fg_bk | with_reducible exact fg_rt | with_reducible exact r_dct | with_reducible apply ss_cons | with_reducible apply f_cons | with_reducible apply s_for | with_reducible apply s_asg | with_reducible apply s_ret | with_reducible apply s_ite | with_reducible apply s_expr | with_reducible apply s_app | with_reducible apply s_setI | with_reducible apply s_unp | with_reducible apply s_aug | with_reducible apply s_rev | with_reducible apply fl_nx | with_reducible apply fg_nx | with_reducible apply fg_ct | with_reducible apply r_var | with_reducible apply r_op | with_reducible apply t_op | with_reducible apply r_mv | with_reducible apply r_sh | with_reducible apply r_glob | with_reducible apply r_bw | with_reducible apply t_bw | with_reducible apply t_var | with_reducible apply t_lit | with_reducible apply r_mopB | with_reducible apply (r_mop rfl) | with_reducible apply t_mop | with_reducible apply r_tup | with_reducible apply r_lst | with_reducible apply r_and | with_reducible apply r_or | with_reducible apply r_not | with_reducible apply r_ite | with_reducible apply r_cmp2 | with_reducible apply r_cmp2z | with_reducible apply r_call | with_reducible apply t_call | with_reducible apply r_meth | with_reducible apply t_meth | with_reducible apply r_new | with_reducible apply r_frz | with_reducible apply r_pop | with_reducible apply r_popAt | with_reducible apply o_bw | with_reducible apply (o_cons rfl) | with_reducible apply v_cons | with_reducible apply a_rf | with_reducible apply (a_cons rfl) | (focus (with_reducible show evF _ _ 4 _ = _); exact hc) | (focus (with_reducible show evF _ _ 3 _ = _); exact beg_ok (n + 4) c) | (focus (with_reducible show evF _ _ 5 _ = _); exact hs) | (focus (with_reducible show evF _ _ 9 _ = _); exact t1) | (focus (with_reducible show evF _ _ 8 _ = _); exact t2) | (focus (with_reducible show evF _ _ 11 _ = _); exact t3) | (focus (with_reducible show evF _ _ 10 _ = _); exact t4) | (focus (with_reducible show evF _ _ 7 _ = _); exact nam_no (n + 4) s h1 h2 h3) | (focus (with_reducible show evF _ _ 6 _ = _); exact sch_no (n + 3) s h1 h2 h3) | ((with_reducible apply cond_t); focus (first | rfl | assumption | (simp [*]; done))) | ((with_reducible apply cond_f); focus (first | rfl | assumption | (simp [*]; done))) | (focus (with_reducible show prim .mod _ = _); exact p_mod (by omega)) | (focus (with_reducible show prim .fdiv _ = _); exact p_fdiv ⟨by omega, by omega⟩) | (focus (with_reducible show prim .mul _ = _); first | exact p_mul2 ⟨by omega, by omega⟩ | exact p_mul1 ⟨by omega, by omega⟩) | (focus (with_reducible show prim _ _ = _); first  | rfl) | (focus (with_reducible show getS _ _ = _); rfl) | (focus (with_reducible show truth _ = _); rfl) | (focus (with_reducible show takeA _ _ _ = _); rfl) | (focus (with_reducible show setO _ _ _ = _); rfl) | (focus (with_reducible show plainS _ _ = _); rfl) | (focus (with_reducible show iterD _ _ = _); rfl) | (focus (with_reducible show bindT _ _ _ = _); rfl) | (focus (with_reducible show O.frz _ = _); rfl) | (focus (with_reducible show rcv _ _ = _); rfl) | (focus (with_reducible show getElem? _ _ = _); rfl) | (focus (with_reducible show _ ≤ sizeLine); exact sz_le rfl) | (focus (with_reducible show _ < sizeLine); exact sz_lt rfl) | (focus (with_reducible show flK (.rt _) _ _ = _); exact fl_rt) | (focus (with_reducible show fgK (.rt _) _ _ = _); exact fg_rt) | (focus (with_reducible show List.length _ = _); rfl))
  · exact ⟨_, _, _, _, _, _, rfl⟩
set_option maxHeartbeats 0 in
theorem law (ns : List Int) (h : ns.length ≤ 63) : ∃ ps, evF B 20 0 [.val (.lst (ns.map .int))] = some (.val (.bl true), ps) := by
  generalize hN : (if (if (20 : Int) < ((ns.map EV.D.int).length : Int) then (20 : Int) else ((ns.map EV.D.int).length : Int)) > 1 then (if (20 : Int) < ((ns.map EV.D.int).length : Int) then (20 : Int) else ((ns.map EV.D.int).length : Int)) else (1 : Int)) = N
  have hb : 0 ≤ N ∧ N ≤ 20 := by
    subst hN
    split <;> split <;> omega
  have hit : iterD .rng1 [.int N] = some (rngL 0 N.toNat) := by
    show (if _ then _ else _) = _
    rw [if_pos (by omega)]
  have loop : ∃ ρ', forGo (bindT (.one 3)) (evSs B.G B.CL B.W (evF B 19) bodyL) (rngL 0 N.toNat) [some (.val (.lst (ns.map .int))), some (.val duD), some (.val woD), none, none, none, none, none, none] = some (.nx, ρ') := by
    obtain ⟨ρ', h1, _⟩ := f_all (bd := bindT (.one 3)) (body := evSs B.G B.CL B.W (evF B 19) bodyL) (fun _ ρ => ∃ y3 y4 y5 y6 y7 y8, ρ = [some (.val (.lst (ns.map .int))), some (.val duD), some (.val woD), y3, y4, y5, y6, y7, y8]) (rngL 0 N.toNat) 0 _ ⟨_, _, _, _, _, _, rfl⟩ (by
      rintro j x ρ hx ⟨y3, y4, y5, y6, y7, y8, rfl⟩
      obtain ⟨hj, rfl⟩ := rngL_get hx
      obtain ⟨ρ2, h1, h2⟩ := turn_ok 14 ns h j (by omega) y4 y5 y6 y7 y8
      refine ⟨_, .nx, ρ2, rfl, ?_, .inl rfl, h2⟩
      rw [Int.zero_add]
      exact h1)
    exact ⟨ρ', h1⟩
  obtain ⟨ρ', hl⟩ := loop
  subst hN
  apply Exists.intro
  apply r_fn (F := ⟨1, 9, none, b0⟩) rfl rfl (hp := rfl)
  unfold b0
  dsimp only
  repeat (first | with_reducible exact r_lit | with_reducible exact f_nil | with_reducible exact o_nil | with_reducible exact v_nil | with_reducible exact a_nil | with_reducible exact ss_nil | with_reducible exact s_retN | with_reducible exact s_pass | with_reducible exact s_brk | with_reducible exact s_cont | with_reducible exact fl_rt | with_reducible exact fl_bk | with_reducible exact fl_ct | with_reducible exact fg_bk | with_reducible exact fg_rt | with_reducible exact r_dct | with_reducible apply ss_cons | with_reducible apply f_cons | with_reducible apply s_for | with_reducible apply s_asg | with_reducible apply s_ret | with_reducible apply s_ite | with_reducible apply s_expr | with_reducible apply s_app | with_reducible apply s_setI | with_reducible apply s_unp | with_reducible apply s_aug | with_reducible apply s_rev | with_reducible apply fl_nx | with_reducible apply fg_nx | with_reducible apply fg_ct | with_reducible apply r_var | with_reducible apply r_op | with_reducible apply t_op | with_reducible apply r_mv | with_reducible apply r_sh | with_reducible apply r_glob | with_reducible apply r_bw | with_reducible apply t_bw | with_reducible apply t_var | with_reducible apply t_lit | with_reducible apply r_mopB | with_reducible apply (r_mop rfl) | with_reducible apply t_mop | with_reducible apply r_tup | with_reducible apply r_lst | with_reducible apply r_and | with_reducible apply r_or | with_reducible apply r_not | with_reducible apply r_ite | with_reducible apply r_cmp2 | with_reducible apply r_cmp2z | with_reducible apply r_call | with_reducible apply t_call | with_reducible apply r_meth | with_reducible apply t_meth | with_reducible apply r_new | with_reducible apply r_frz | with_reducible apply r_pop | with_reducible apply r_popAt | with_reducible apply o_bw | with_reducible apply (o_cons rfl) | with_reducible apply v_cons | with_reducible apply a_rf | with_reducible apply (a_cons rfl) | (focus (with_reducible show evF _ _ 1 _ = _); exact due_ok 18) | (focus (with_reducible show evF _ _ 2 _ = _); exact lw_ok 17) | (focus (with_reducible show forGo _ _ _ _ = _); exact hl) | (focus (with_reducible show iterD .rng1 _ = _); exact hit) | ((with_reducible apply cond_t); focus (first | rfl | assumption | (simp [*]; done))) | ((with_reducible apply cond_f); focus (first | rfl | assumption | (simp [*]; done))) | (focus (with_reducible show prim .mod _ = _); exact p_mod (by omega)) | (focus (with_reducible show prim .fdiv _ = _); exact p_fdiv ⟨by omega, by omega⟩) | (focus (with_reducible show prim .mul _ = _); first | exact p_mul2 ⟨by omega, by omega⟩ | exact p_mul1 ⟨by omega, by omega⟩) | (focus (with_reducible show prim _ _ = _); first  | exact ne_6 | exact ne_7 | rfl) | (focus (with_reducible show getS _ _ = _); rfl) | (focus (with_reducible show truth _ = _); rfl) | (focus (with_reducible show takeA _ _ _ = _); rfl) | (focus (with_reducible show setO _ _ _ = _); rfl) | (focus (with_reducible show plainS _ _ = _); rfl) | (focus (with_reducible show iterD _ _ = _); rfl) | (focus (with_reducible show bindT _ _ _ = _); rfl) | (focus (with_reducible show O.frz _ = _); rfl) | (focus (with_reducible show rcv _ _ = _); rfl) | (focus (with_reducible show getElem? _ _ = _); rfl) | (focus (with_reducible show _ ≤ sizeLine); exact sz_le rfl) | (focus (with_reducible show _ < sizeLine); exact sz_lt rfl) | (focus (with_reducible show flK (.rt _) _ _ = _); exact fl_rt) | (focus (with_reducible show fgK (.rt _) _ _ = _); exact fg_rt) | (focus (with_reducible show List.length _ = _); rfl))

def md (K : PySem.W.Frag) (cs : List Addr) : Mt := ⟨K, fun c => cs.getD c 0, fun k => T.fnm.getD k Str.empty, T.cnm.length⟩
theorem all_mk {l : PySem.W.OpenLaw} {w : World} {K : PySem.W.Frag} {h : Heap} {mg : Str → Option Value} {fa C0 a0 a1 a2 a3 a4 a5 a6 a7 a8 a9 a10 a11 a12 a13 a14 ai0 t0 t2 : Addr} (X : K.In h) (G : h.Ns mainGlobals mg) (hfa : mg "law" = some (.ref fa))
    {odi0 ani0 : Option Addr} {sli0 : Array (Option Value)} {oci0 kVi0 dci0 pmi0 cdi0 cti0 : Value} {od0 an0 : Option Addr} {sl0 : Array (Option Value)} {oc0 kV0 dc0 pm0 cd0 ct0 : Value} {od1 an1 : Option Addr} {sl1 : Array (Option Value)} {oc1 kV1 dc1 pm1 cd1 ct1 : Value} {od2 an2 : Option Addr} {sl2 : Array (Option Value)} {oc2 kV2 dc2 pm2 cd2 ct2 : Value} {od3 an3 : Option Addr} {sl3 : Array (Option Value)} {oc3 kV3 dc3 pm3 cd3 ct3 : Value} {od4 an4 : Option Addr} {sl4 : Array (Option Value)} {oc4 kV4 dc4 pm4 cd4 ct4 : Value} {od5 an5 : Option Addr} {sl5 : Array (Option Value)} {oc5 kV5 dc5 pm5 cd5 ct5 : Value} {od6 an6 : Option Addr} {sl6 : Array (Option Value)} {oc6 kV6 dc6 pm6 cd6 ct6 : Value} {od7 an7 : Option Addr} {sl7 : Array (Option Value)} {oc7 kV7 dc7 pm7 cd7 ct7 : Value} {od8 an8 : Option Addr} {sl8 : Array (Option Value)} {oc8 kV8 dc8 pm8 cd8 ct8 : Value} {od9 an9 : Option Addr} {sl9 : Array (Option Value)} {oc9 kV9 dc9 pm9 cd9 ct9 : Value} {od10 an10 : Option Addr} {sl10 : Array (Option Value)} {oc10 kV10 dc10 pm10 cd10 ct10 : Value} {od11 an11 : Option Addr} {sl11 : Array (Option Value)} {oc11 kV11 dc11 pm11 cd11 ct11 : Value} {od12 an12 : Option Addr} {sl12 : Array (Option Value)} {oc12 kV12 dc12 pm12 cd12 ct12 : Value} {od13 an13 : Option Addr} {sl13 : Array (Option Value)} {oc13 kV13 dc13 pm13 cd13 ct13 : Value} {od14 an14 : Option Addr} {sl14 : Array (Option Value)} {oc14 kV14 dc14 pm14 cd14 ct14 : Value} {to0 : Option Addr} {ts0 : Array (Option Value)} {tn0 : Nat} {tk1 : Nat} {to2 : Option Addr} {ts2 : Array (Option Value)} {tn2 : Nat} {tk3 : Nat}
    (gC0 : PySem.W.nsIn K mainGlobals "World" = some (some (.ref C0)))
    (pg0 : PySem.W.plainGet K C0 Str.empty = true)
    (hd0 : PySem.W.hasDictIn K C0 = true)
    (po0 : PySem.W.plainOver K C0 = true)
    (sa0 : PySem.W.findIn K (.ref C0) "__setattr__" = some (some (.builtin "object.__setattr__")))
    (mk0 : PySem.W.makesIn K C0 = true)
    (kc0 : PySem.W.keepIn K (.ref C0) = true)
    (it0 : PySem.W.findIn K (.ref C0) "__init__" = some (some (.ref ai0)))
    (if0 : PySem.W.isFn K (.ref ai0) = true)
    (li0 : K.lookup ai0 = some ⟨oci0, odi0, .func (PySem.W.fnOf "__init__" "World.__init__" (defArgs (inClass (topS 6) 0)) (defBody (inClass (topS 6) 0)) (defScope (inClass (topS 6) 0)) .none kVi0 dci0 pmi0 ani0 cdi0 cti0), sli0⟩)
    (ci0 : PySem.W.codeIn K cdi0 "World.__init__" = true)
    (ki0 : PySem.W.keepIn K (.ref ai0) = true)
    (ha0 : PySem.W.findIn K (.ref C0) "__class__" = some (some (.builtin "object.__class__")))
    (hm0 : PySem.W.mroIn K C0 (.type "object") = some true)
    (pNoneType0 : PySem.W.kitOne K (.type "NoneType") (.ref C0) = some false)
    (pbool0 : PySem.W.kitOne K (.type "bool") (.ref C0) = some false)
    (pint0 : PySem.W.kitOne K (.type "int") (.ref C0) = some false)
    (pstr0 : PySem.W.kitOne K (.type "str") (.ref C0) = some false)
    (plist0 : PySem.W.kitOne K (.type "list") (.ref C0) = some false)
    (ptuple0 : PySem.W.kitOne K (.type "tuple") (.ref C0) = some false)
    (pdict0 : PySem.W.kitOne K (.type "dict") (.ref C0) = some false)
    (qstr0 : PySem.W.kitOne K (.ref C0) (.type "str") = some false)
    (qint0 : PySem.W.kitOne K (.ref C0) (.type "int") = some false)
    (qtuple0 : PySem.W.kitOne K (.ref C0) (.type "tuple") = some false)
    (qlist0 : PySem.W.kitOne K (.ref C0) (.type "list") = some false)
    (qbool0 : PySem.W.kitOne K (.ref C0) (.type "bool") = some false)
    (qdict0 : PySem.W.kitOne K (.ref C0) (.type "dict") = some false)
    (r0_0 : PySem.W.kitOne K (.ref C0) (.ref C0) = some true)
    (na0_0 : PySem.W.findIn K (.ref C0) "shapes" = some none)
    (na0_1 : PySem.W.findIn K (.ref C0) "classes" = some none)
    (na0_2 : PySem.W.findIn K (.ref C0) "houses" = some none)
    (na0_3 : PySem.W.findIn K (.ref C0) "names" = some none)
    (hn : PySem.W.specialIn K (.builtin "object.__class__") "__get__" = some (some (.builtin "getset_descriptor.__get__")))
    (htk : PySem.W.takesIn K (.builtin "object.__class__") = some true)
    (g0 : PySem.W.nsIn K mainGlobals "law" = some (some (.ref a0)))
    (l0 : K.lookup a0 = some ⟨oc0, od0, .func (PySem.W.fnOf "law" "law" (defArgs (topS 15)) (defBody (topS 15)) (defScope (topS 15)) .none kV0 dc0 pm0 an0 cd0 ct0), sl0⟩)
    (c0 : PySem.W.codeIn K cd0 "law" = true)
    (k0 : PySem.W.keepIn K (.ref a0) = true)
    (g1 : PySem.W.nsIn K mainGlobals "_law_due" = some (some (.ref a1)))
    (l1 : K.lookup a1 = some ⟨oc1, od1, .func (PySem.W.fnOf "_law_due" "_law_due" (defArgs (topS 14)) (defBody (topS 14)) (defScope (topS 14)) .none kV1 dc1 pm1 an1 cd1 ct1), sl1⟩)
    (c1 : PySem.W.codeIn K cd1 "_law_due" = true)
    (k1 : PySem.W.keepIn K (.ref a1) = true)
    (g2 : PySem.W.nsIn K mainGlobals "least_world" = some (some (.ref a2)))
    (l2 : K.lookup a2 = some ⟨oc2, od2, .func (PySem.W.fnOf "least_world" "least_world" (defArgs (topS 8)) (defBody (topS 8)) (defScope (topS 8)) .none kV2 dc2 pm2 an2 cd2 ct2), sl2⟩)
    (c2 : PySem.W.codeIn K cd2 "least_world" = true)
    (k2 : PySem.W.keepIn K (.ref a2) = true)
    (g3 : PySem.W.nsIn K mainGlobals "_law_begin" = some (some (.ref a3)))
    (l3 : K.lookup a3 = some ⟨oc3, od3, .func (PySem.W.fnOf "_law_begin" "_law_begin" (defArgs (topS 11)) (defBody (topS 11)) (defScope (topS 11)) .none kV3 dc3 pm3 an3 cd3 ct3), sl3⟩)
    (c3 : PySem.W.codeIn K cd3 "_law_begin" = true)
    (k3 : PySem.W.keepIn K (.ref a3) = true)
    (g4 : PySem.W.nsIn K mainGlobals "_law_at" = some (some (.ref a4)))
    (l4 : K.lookup a4 = some ⟨oc4, od4, .func (PySem.W.fnOf "_law_at" "_law_at" (defArgs (topS 10)) (defBody (topS 10)) (defScope (topS 10)) .none kV4 dc4 pm4 an4 cd4 ct4), sl4⟩)
    (c4 : PySem.W.codeIn K cd4 "_law_at" = true)
    (k4 : PySem.W.keepIn K (.ref a4) = true)
    (g5 : PySem.W.nsIn K mainGlobals "_law_name" = some (some (.ref a5)))
    (l5 : K.lookup a5 = some ⟨oc5, od5, .func (PySem.W.fnOf "_law_name" "_law_name" (defArgs (topS 13)) (defBody (topS 13)) (defScope (topS 13)) .none kV5 dc5 pm5 an5 cd5 ct5), sl5⟩)
    (c5 : PySem.W.codeIn K cd5 "_law_name" = true)
    (k5 : PySem.W.keepIn K (.ref a5) = true)
    (g6 : PySem.W.findIn K (.ref C0) "scheme_of" = some (some (.ref a6)))
    (i6 : PySem.W.isFn K (.ref a6) = true)
    (l6 : K.lookup a6 = some ⟨oc6, od6, .func (PySem.W.fnOf "scheme_of" "World.scheme_of" (defArgs (inClass (topS 6) 7)) (defBody (inClass (topS 6) 7)) (defScope (inClass (topS 6) 7)) .none kV6 dc6 pm6 an6 cd6 ct6), sl6⟩)
    (c6 : PySem.W.codeIn K cd6 "World.scheme_of" = true)
    (k6 : PySem.W.keepIn K (.ref a6) = true)
    (g7 : PySem.W.findIn K (.ref C0) "name_called" = some (some (.ref a7)))
    (i7 : PySem.W.isFn K (.ref a7) = true)
    (l7 : K.lookup a7 = some ⟨oc7, od7, .func (PySem.W.fnOf "name_called" "World.name_called" (defArgs (inClass (topS 6) 6)) (defBody (inClass (topS 6) 6)) (defScope (inClass (topS 6) 6)) .none kV7 dc7 pm7 an7 cd7 ct7), sl7⟩)
    (c7 : PySem.W.codeIn K cd7 "World.name_called" = true)
    (k7 : PySem.W.keepIn K (.ref a7) = true)
    (g8 : PySem.W.findIn K (.ref C0) "shape_called" = some (some (.ref a8)))
    (i8 : PySem.W.isFn K (.ref a8) = true)
    (l8 : K.lookup a8 = some ⟨oc8, od8, .func (PySem.W.fnOf "shape_called" "World.shape_called" (defArgs (inClass (topS 6) 2)) (defBody (inClass (topS 6) 2)) (defScope (inClass (topS 6) 2)) .none kV8 dc8 pm8 an8 cd8 ct8), sl8⟩)
    (c8 : PySem.W.codeIn K cd8 "World.shape_called" = true)
    (k8 : PySem.W.keepIn K (.ref a8) = true)
    (g9 : PySem.W.findIn K (.ref C0) "shape_of" = some (some (.ref a9)))
    (i9 : PySem.W.isFn K (.ref a9) = true)
    (l9 : K.lookup a9 = some ⟨oc9, od9, .func (PySem.W.fnOf "shape_of" "World.shape_of" (defArgs (inClass (topS 6) 1)) (defBody (inClass (topS 6) 1)) (defScope (inClass (topS 6) 1)) .none kV9 dc9 pm9 an9 cd9 ct9), sl9⟩)
    (c9 : PySem.W.codeIn K cd9 "World.shape_of" = true)
    (k9 : PySem.W.keepIn K (.ref a9) = true)
    (g10 : PySem.W.findIn K (.ref C0) "house_for" = some (some (.ref a10)))
    (i10 : PySem.W.isFn K (.ref a10) = true)
    (l10 : K.lookup a10 = some ⟨oc10, od10, .func (PySem.W.fnOf "house_for" "World.house_for" (defArgs (inClass (topS 6) 5)) (defBody (inClass (topS 6) 5)) (defScope (inClass (topS 6) 5)) .none kV10 dc10 pm10 an10 cd10 ct10), sl10⟩)
    (c10 : PySem.W.codeIn K cd10 "World.house_for" = true)
    (k10 : PySem.W.keepIn K (.ref a10) = true)
    (g11 : PySem.W.findIn K (.ref C0) "class_called" = some (some (.ref a11)))
    (i11 : PySem.W.isFn K (.ref a11) = true)
    (l11 : K.lookup a11 = some ⟨oc11, od11, .func (PySem.W.fnOf "class_called" "World.class_called" (defArgs (inClass (topS 6) 3)) (defBody (inClass (topS 6) 3)) (defScope (inClass (topS 6) 3)) .none kV11 dc11 pm11 an11 cd11 ct11), sl11⟩)
    (c11 : PySem.W.codeIn K cd11 "World.class_called" = true)
    (k11 : PySem.W.keepIn K (.ref a11) = true)
    (g12 : PySem.W.nsIn K mainGlobals "of_two_numbers" = some (some (.ref a12)))
    (l12 : K.lookup a12 = some ⟨oc12, od12, .func (PySem.W.fnOf "of_two_numbers" "of_two_numbers" (defArgs (topS 7)) (defBody (topS 7)) (defScope (topS 7)) .none kV12 dc12 pm12 an12 cd12 ct12), sl12⟩)
    (c12 : PySem.W.codeIn K cd12 "of_two_numbers" = true)
    (k12 : PySem.W.keepIn K (.ref a12) = true)
    (g13 : PySem.W.nsIn K mainGlobals "_law_draw" = some (some (.ref a13)))
    (l13 : K.lookup a13 = some ⟨oc13, od13, .func (PySem.W.fnOf "_law_draw" "_law_draw" (defArgs (topS 12)) (defBody (topS 12)) (defScope (topS 12)) .none kV13 dc13 pm13 an13 cd13 ct13), sl13⟩)
    (c13 : PySem.W.codeIn K cd13 "_law_draw" = true)
    (k13 : PySem.W.keepIn K (.ref a13) = true)
    (g14 : PySem.W.findIn K (.ref C0) "class_by_deed" = some (some (.ref a14)))
    (i14 : PySem.W.isFn K (.ref a14) = true)
    (l14 : K.lookup a14 = some ⟨oc14, od14, .func (PySem.W.fnOf "class_by_deed" "World.class_by_deed" (defArgs (inClass (topS 6) 4)) (defBody (inClass (topS 6) 4)) (defScope (inClass (topS 6) 4)) .none kV14 dc14 pm14 an14 cd14 ct14), sl14⟩)
    (c14 : PySem.W.codeIn K cd14 "World.class_by_deed" = true)
    (k14 : PySem.W.keepIn K (.ref a14) = true)
    (w_NUM : PySem.W.nsIn K mainGlobals "NUM" = some (some (.ref t0)))
    (y0 : K.lookup t0 = some ⟨.type "tuple", to0, .seq #[.str "num" tk1] tn0, ts0⟩)
    (w_TRUTH : PySem.W.nsIn K mainGlobals "TRUTH" = some (some (.ref t2)))
    (y2 : K.lookup t2 = some ⟨.type "tuple", to2, .seq #[.str "truth" tk3] tn2, ts2⟩)
    (z_len : PySem.W.nsIn K mainGlobals "len" = some none)
    (z_sum : PySem.W.nsIn K mainGlobals "sum" = some none)
    (z_all : PySem.W.nsIn K mainGlobals "all" = some none)
    (z_any : PySem.W.nsIn K mainGlobals "any" = some none)
    (z_min : PySem.W.nsIn K mainGlobals "min" = some none)
    (z_max : PySem.W.nsIn K mainGlobals "max" = some none)
    (z_int : PySem.W.nsIn K mainGlobals "int" = some none)
    (z_str : PySem.W.nsIn K mainGlobals "str" = some none)
    (z_list : PySem.W.nsIn K mainGlobals "list" = some none)
    (z_tuple : PySem.W.nsIn K mainGlobals "tuple" = some none)
    (z_bool : PySem.W.nsIn K mainGlobals "bool" = some none)
    (z_dict : PySem.W.nsIn K mainGlobals "dict" = some none)
    (z_isinstance : PySem.W.nsIn K mainGlobals "isinstance" = some none)
    (z_range : PySem.W.nsIn K mainGlobals "range" = some none)
    (z_enumerate : PySem.W.nsIn K mainGlobals "enumerate" = some none)
    (z_zip : PySem.W.nsIn K mainGlobals "zip" = some none)
    (z_reversed : PySem.W.nsIn K mainGlobals "reversed" = some none) :
    ∃ fd : FuncData, (∀ (s : Shared) (v : Value), BindsTo s fd ⟨[v], []⟩ [("script", v)]) ∧ ∀ base : Heap, K.In base → base.Ns mainGlobals mg → FnOk l.prog w K mg base CX0 22 fa fd ["script"] (EV.spLaw K) := by
  have e := hfa.symm.trans (PySem.W.mg_of X G g0)
  cases e
  have cA0 : ∀ f ∈ T.fnm, NoAttr K C0 f := fun f hf => by
    simp only [T, List.mem_cons, List.not_mem_nil, or_false] at hf
    rcases hf with rfl | rfl | rfl | rfl
    · exact na0_0
    · exact na0_1
    · exact na0_2
    · exact na0_3
  have cP0 : ∀ n ∈ ["NoneType", "bool", "int", "str", "list", "tuple", "dict"], PySem.W.kitOne K (.type n) (.ref C0) = some false := fun n hn0 => by
    simp only [List.mem_cons, List.not_mem_nil, or_false] at hn0
    rcases hn0 with rfl | rfl | rfl | rfl | rfl | rfl | rfl
    · exact pNoneType0
    · exact pbool0
    · exact pint0
    · exact pstr0
    · exact plist0
    · exact ptuple0
    · exact pdict0
  have cQ0 : ∀ n ∈ ["str", "int", "tuple", "list", "bool", "dict"], PySem.W.kitOne K (.ref C0) (.type n) = some false := fun n hn0 => by
    simp only [List.mem_cons, List.not_mem_nil, or_false] at hn0
    rcases hn0 with rfl | rfl | rfl | rfl | rfl | rfl
    · exact qstr0
    · exact qint0
    · exact qtuple0
    · exact qlist0
    · exact qbool0
    · exact qdict0
  have cR0 : ∀ d, d < T.cnm.length → PySem.W.kitOne K (.ref C0) (.ref ((md K [C0]).cl d)) = some (0 == d) := fun d hd0 => by
    have hd0 : d < 1 := hd0
    match d, hd0 with
    | 0, _ => exact r0_0
    | n + 1, h => exact absurd h (by omega)
  have cl0 : ClOk (md K [C0]) T K 0 := ⟨⟨pg0, hd0, po0, sa0⟩, cA0, ha0, hn, htk, hm0, cP0, cQ0, cR0⟩
  have F0 : FnIn (md K [C0]) T B K mg 0 f0 _ _ := fn_in (fun_mk (st := (topS 15)) l0 c0 k0) rfl m0 (fun us hl => match us, hl with | [_], _ => rfl) (fun _ => PySem.W.mg_of X G g0) (fun h => by cases h)
  have F1 : FnIn (md K [C0]) T B K mg 1 f1 a1 _ := fn_in (fun_mk (st := (topS 14)) l1 c1 k1) rfl m1 (fun us hl => match us, hl with | [], _ => rfl) (fun _ => PySem.W.mg_of X G g1) (fun h => by cases h)
  have F2 : FnIn (md K [C0]) T B K mg 2 f2 a2 _ := fn_in (fun_mk (st := (topS 8)) l2 c2 k2) rfl m2 (fun us hl => match us, hl with | [], _ => rfl) (fun _ => PySem.W.mg_of X G g2) (fun h => by cases h)
  have F3 : FnIn (md K [C0]) T B K mg 3 f3 a3 _ := fn_in (fun_mk (st := (topS 11)) l3 c3 k3) rfl m3 (fun us hl => match us, hl with | [_], _ => rfl) (fun _ => PySem.W.mg_of X G g3) (fun h => by cases h)
  have F4 : FnIn (md K [C0]) T B K mg 4 f4 a4 _ := fn_in (fun_mk (st := (topS 10)) l4 c4 k4) rfl m4 (fun us hl => match us, hl with | [_, _], _ => rfl) (fun _ => PySem.W.mg_of X G g4) (fun h => by cases h)
  have F5 : FnIn (md K [C0]) T B K mg 5 f5 a5 _ := fn_in (fun_mk (st := (topS 13)) l5 c5 k5) rfl m5 (fun us hl => match us, hl with | [_], _ => rfl) (fun _ => PySem.W.mg_of X G g5) (fun h => by cases h)
  have F6 : FnIn (md K [C0]) T B K mg 6 f6 a6 _ := fn_in (fun_mk (st := (inClass (topS 6) 7)) l6 c6 k6) rfl m6 (fun us hl => match us, hl with | [_, _], _ => rfl) (fun h => by cases h) (fun _ => ⟨g6, i6, k6⟩)
  have F7 : FnIn (md K [C0]) T B K mg 7 f7 a7 _ := fn_in (fun_mk (st := (inClass (topS 6) 6)) l7 c7 k7) rfl m7 (fun us hl => match us, hl with | [_, _], _ => rfl) (fun h => by cases h) (fun _ => ⟨g7, i7, k7⟩)
  have F8 : FnIn (md K [C0]) T B K mg 8 f8 a8 _ := fn_in (fun_mk (st := (inClass (topS 6) 2)) l8 c8 k8) rfl m8 (fun us hl => match us, hl with | [_, _], _ => rfl) (fun h => by cases h) (fun _ => ⟨g8, i8, k8⟩)
  have F9 : FnIn (md K [C0]) T B K mg 9 f9 a9 _ := fn_in (fun_mk (st := (inClass (topS 6) 1)) l9 c9 k9) rfl m9 (fun us hl => match us, hl with | [_, _], _ => rfl) (fun h => by cases h) (fun _ => ⟨g9, i9, k9⟩)
  have F10 : FnIn (md K [C0]) T B K mg 10 f10 a10 _ := fn_in (fun_mk (st := (inClass (topS 6) 5)) l10 c10 k10) rfl m10 (fun us hl => match us, hl with | [_, _, _], _ => rfl) (fun h => by cases h) (fun _ => ⟨g10, i10, k10⟩)
  have F11 : FnIn (md K [C0]) T B K mg 11 f11 a11 _ := fn_in (fun_mk (st := (inClass (topS 6) 3)) l11 c11 k11) rfl m11 (fun us hl => match us, hl with | [_, _], _ => rfl) (fun h => by cases h) (fun _ => ⟨g11, i11, k11⟩)
  have F12 : FnIn (md K [C0]) T B K mg 12 f12 a12 _ := fn_in (fun_mk (st := (topS 7)) l12 c12 k12) rfl m12 (fun us hl => match us, hl with | [_], _ => rfl) (fun _ => PySem.W.mg_of X G g12) (fun h => by cases h)
  have F13 : FnIn (md K [C0]) T B K mg 13 f13 a13 _ := fn_in (fun_mk (st := (topS 12)) l13 c13 k13) rfl m13 (fun us hl => match us, hl with | [_, _], _ => rfl) (fun _ => PySem.W.mg_of X G g13) (fun h => by cases h)
  have F14 : FnIn (md K [C0]) T B K mg 14 f14 a14 _ := fn_in (fun_mk (st := (inClass (topS 6) 4)) l14 c14 k14) rfl m14 (fun us hl => match us, hl with | [_, _], _ => rfl) (fun h => by cases h) (fun _ => ⟨g14, i14, k14⟩)
  have W : Wd (md K [C0]) T B K mg := {
    k := rfl
    glb := fun g x d h1 h2 => by
      match g, h1, h2 with
      | 0, h1, h2 => cases h1; cases h2; exact ⟨.ref t0, .ref t0, PySem.W.mg_of X G w_NUM, rfl, ⟨t0, [.str "num"], rfl, .inr ⟨_, _, _, y0, rfl, rfl, (by show 1 ≤ sizeLine; decide), .cons (⟨_, rfl⟩) (.nil)⟩, ⟨_, _, rfl, rfl, rfl⟩⟩⟩
      | 1, h1, h2 => cases h1; cases h2; exact ⟨.ref t2, .ref t2, PySem.W.mg_of X G w_TRUTH, rfl, ⟨t2, [.str "truth"], rfl, .inr ⟨_, _, _, y2, rfl, rfl, (by show 1 ≤ sizeLine; decide), .cons (⟨_, rfl⟩) (.nil)⟩, ⟨_, _, rfl, rfl, rfl⟩⟩⟩
      | n + 2, h1, _ => exact absurd (show T.glb[n + 2]? = some x from h1) (by simp [T])
    blt := fun x hx => by
      simp only [bltNames, List.mem_cons, List.not_mem_nil, or_false] at hx
      rcases hx with rfl | rfl | rfl | rfl | rfl | rfl | rfl | rfl | rfl | rfl | rfl | rfl | rfl | rfl | rfl | rfl | rfl
      · exact PySem.W.mg_none_of X G z_len
      · exact PySem.W.mg_none_of X G z_sum
      · exact PySem.W.mg_none_of X G z_all
      · exact PySem.W.mg_none_of X G z_any
      · exact PySem.W.mg_none_of X G z_min
      · exact PySem.W.mg_none_of X G z_max
      · exact PySem.W.mg_none_of X G z_int
      · exact PySem.W.mg_none_of X G z_str
      · exact PySem.W.mg_none_of X G z_list
      · exact PySem.W.mg_none_of X G z_tuple
      · exact PySem.W.mg_none_of X G z_bool
      · exact PySem.W.mg_none_of X G z_dict
      · exact PySem.W.mg_none_of X G z_isinstance
      · exact PySem.W.mg_none_of X G z_range
      · exact PySem.W.mg_none_of X G z_enumerate
      · exact PySem.W.mg_none_of X G z_zip
      · exact PySem.W.mg_none_of X G z_reversed
    fns := fun f F hF => by
      match f, hF with
      | 0, h1 => cases h1; exact ⟨_, _, F0⟩
      | 1, h1 => cases h1; exact ⟨_, _, F1⟩
      | 2, h1 => cases h1; exact ⟨_, _, F2⟩
      | 3, h1 => cases h1; exact ⟨_, _, F3⟩
      | 4, h1 => cases h1; exact ⟨_, _, F4⟩
      | 5, h1 => cases h1; exact ⟨_, _, F5⟩
      | 6, h1 => cases h1; exact ⟨_, _, F6⟩
      | 7, h1 => cases h1; exact ⟨_, _, F7⟩
      | 8, h1 => cases h1; exact ⟨_, _, F8⟩
      | 9, h1 => cases h1; exact ⟨_, _, F9⟩
      | 10, h1 => cases h1; exact ⟨_, _, F10⟩
      | 11, h1 => cases h1; exact ⟨_, _, F11⟩
      | 12, h1 => cases h1; exact ⟨_, _, F12⟩
      | 13, h1 => cases h1; exact ⟨_, _, F13⟩
      | 14, h1 => cases h1; exact ⟨_, _, F14⟩
      | n + 15, h1 => exact absurd (show T.fns[n + 15]? = some F from h1) (by simp [T])
    cls := fun c x h => by
      match c, h with
      | 0, h1 => cases h1; exact ⟨cl0, PySem.W.mg_of X G gC0⟩
      | n + 1, h1 => exact absurd (show T.cnm[n + 1]? = some x from h1) (by simp [T])
    fcl := fcl_of (by decide +kernel)
    new := fun c x ns h h2 => by
      match c, h, h2 with
      | 0, h1, h2 => cases h1; cases h2; exact new_of ⟨mk0, it0, if0, kc0⟩ (fun_mk (st := (inClass (topS 6) 0)) li0 ci0 ki0) cl0 rfl (fun _ => rfl) rfl (by decide +kernel) (by decide) cm0 (fun us hl => match us, hl with | [_, _, _, _, _], _ => rfl)
      | n + 1, h1, _ => exact absurd (show T.cnm[n + 1]? = some x from h1) (by simp [T])
    fnm := fun _ => rfl
    fnd := by decide +kernel
    mnm := mnm_of (by decide +kernel)
    nc := rfl }
  exact ⟨_, fun s v => .of_eq (F0.bnd [v] rfl), fun base _ _ => law_ok (F := f0) W rfl F0 rfl law⟩
end K23
open PySem PySem.W PyProof.Rows
set_option maxRecDepth 100000 in
set_option maxHeartbeats 0 in
theorem PySem.Challenge.cw_kindreach_k23_the_least_world_holds : PySem.Challenge.rw_kindreach_k23_the_least_world.Holds := by
  w_on; o_law; k_head; (case hw => w_witness2)
  k_fill
  refine L2.walk_of (l := PySem.Challenge.rw_kindreach_k23_the_least_world) (n := 63) (k := 22) (x := "script") (CX := fun _ => L2.CX0) (sp := fun w => EV.spLaw _) rfl (by decide) rfl ⟨rfl, by decide, by decide⟩ (fun w h Y => by first | exact PySem.W.kIn_of Y | exact PySem.W.km_in_of Y) ?F (fun _ _ a ns hl _ hS => ⟨a, ns, rfl, hS, hl, fun _ => rfl⟩) (fun _ _ _ _ _ h => h)
  case F =>
    intro w mg fa h KX G hmg
    refine' K23.all_mk KX G hmg ?hygC0 ?hypg0 ?hyhd0 ?hypo0 ?hysa0 ?hymk0 ?hykc0 ?hyit0 ?hyif0 ?hyli0 ?hyci0 ?hyki0 ?hyha0 ?hyhm0 ?hypNoneType0 ?hypbool0 ?hypint0 ?hypstr0 ?hyplist0 ?hyptuple0 ?hypdict0 ?hyqstr0 ?hyqint0 ?hyqtuple0 ?hyqlist0 ?hyqbool0 ?hyqdict0 ?hyr0_0 ?hyna0_0 ?hyna0_1 ?hyna0_2 ?hyna0_3 ?hyhn ?hyhtk ?hyg0 ?hyl0 ?hyc0 ?hyk0 ?hyg1 ?hyl1 ?hyc1 ?hyk1 ?hyg2 ?hyl2 ?hyc2 ?hyk2 ?hyg3 ?hyl3 ?hyc3 ?hyk3 ?hyg4 ?hyl4 ?hyc4 ?hyk4 ?hyg5 ?hyl5 ?hyc5 ?hyk5 ?hyg6 ?hyi6 ?hyl6 ?hyc6 ?hyk6 ?hyg7 ?hyi7 ?hyl7 ?hyc7 ?hyk7 ?hyg8 ?hyi8 ?hyl8 ?hyc8 ?hyk8 ?hyg9 ?hyi9 ?hyl9 ?hyc9 ?hyk9 ?hyg10 ?hyi10 ?hyl10 ?hyc10 ?hyk10 ?hyg11 ?hyi11 ?hyl11 ?hyc11 ?hyk11 ?hyg12 ?hyl12 ?hyc12 ?hyk12 ?hyg13 ?hyl13 ?hyc13 ?hyk13 ?hyg14 ?hyi14 ?hyl14 ?hyc14 ?hyk14 ?hyw_NUM ?hyy0 ?hyw_TRUTH ?hyy2 ?hyz_len ?hyz_sum ?hyz_all ?hyz_any ?hyz_min ?hyz_max ?hyz_int ?hyz_str ?hyz_list ?hyz_tuple ?hyz_bool ?hyz_dict ?hyz_isinstance ?hyz_range ?hyz_enumerate ?hyz_zip ?hyz_reversed
    (case hygC0 => k_is); (case hypg0 => k_is); (case hyhd0 => k_is); (case hypo0 => k_is)
    (case hysa0 => k_is); (case hymk0 => k_is); (case hykc0 => k_is); (case hyit0 => k_is)
    (case hyif0 => k_is); (case hyli0 => k_is); (case hyci0 => k_is); (case hyki0 => k_is)
    (case hyha0 => k_is); (case hyhm0 => k_is); (case hypNoneType0 => kit_is); (case hypbool0 => kit_is)
    (case hypint0 => kit_is); (case hypstr0 => kit_is); (case hyplist0 => kit_is); (case hyptuple0 => kit_is)
    (case hypdict0 => kit_is); (case hyqstr0 => kit_is); (case hyqint0 => kit_is); (case hyqtuple0 => kit_is)
    (case hyqlist0 => kit_is); (case hyqbool0 => kit_is); (case hyqdict0 => kit_is); (case hyr0_0 => kit_is)
    (case hyna0_0 => k_is); (case hyna0_1 => k_is); (case hyna0_2 => k_is); (case hyna0_3 => k_is)
    (case hyhn => k_is); (case hyhtk => k_is); (case hyg0 => k_is); (case hyl0 => k_is)
    (case hyc0 => k_is); (case hyk0 => k_is); (case hyg1 => k_is); (case hyl1 => k_is)
    (case hyc1 => k_is); (case hyk1 => k_is); (case hyg2 => k_is); (case hyl2 => k_is)
    (case hyc2 => k_is); (case hyk2 => k_is); (case hyg3 => k_is); (case hyl3 => k_is)
    (case hyc3 => k_is); (case hyk3 => k_is); (case hyg4 => k_is); (case hyl4 => k_is)
    (case hyc4 => k_is); (case hyk4 => k_is); (case hyg5 => k_is); (case hyl5 => k_is)
    (case hyc5 => k_is); (case hyk5 => k_is); (case hyg6 => k_is); (case hyi6 => k_is)
    (case hyl6 => k_is); (case hyc6 => k_is); (case hyk6 => k_is); (case hyg7 => k_is)
    (case hyi7 => k_is); (case hyl7 => k_is); (case hyc7 => k_is); (case hyk7 => k_is)
    (case hyg8 => k_is); (case hyi8 => k_is); (case hyl8 => k_is); (case hyc8 => k_is)
    (case hyk8 => k_is); (case hyg9 => k_is); (case hyi9 => k_is); (case hyl9 => k_is)
    (case hyc9 => k_is); (case hyk9 => k_is); (case hyg10 => k_is); (case hyi10 => k_is)
    (case hyl10 => k_is); (case hyc10 => k_is); (case hyk10 => k_is); (case hyg11 => k_is)
    (case hyi11 => k_is); (case hyl11 => k_is); (case hyc11 => k_is); (case hyk11 => k_is)
    (case hyg12 => k_is); (case hyl12 => k_is); (case hyc12 => k_is); (case hyk12 => k_is)
    (case hyg13 => k_is); (case hyl13 => k_is); (case hyc13 => k_is); (case hyk13 => k_is)
    (case hyg14 => k_is); (case hyi14 => k_is); (case hyl14 => k_is); (case hyc14 => k_is)
    (case hyk14 => k_is); (case hyw_NUM => k_is); (case hyy0 => k_is); (case hyw_TRUTH => k_is)
    (case hyy2 => k_is); (case hyz_len => k_is); (case hyz_sum => k_is); (case hyz_all => k_is)
    (case hyz_any => k_is); (case hyz_min => k_is); (case hyz_max => k_is); (case hyz_int => k_is)
    (case hyz_str => k_is); (case hyz_list => k_is); (case hyz_tuple => k_is); (case hyz_bool => k_is)
    (case hyz_dict => k_is); (case hyz_isinstance => k_is); (case hyz_range => k_is); (case hyz_enumerate => k_is)
    (case hyz_zip => k_is); (case hyz_reversed => k_is)
