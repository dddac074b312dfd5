import PyProof.Rows.All
import Wide.All
import OpenK.AllK
import Wide.FinOn
import HandS.ForMost
import HandS.TupMul
import PyProof.ListMulRoad
import PyProof.FactsAll.tuple_2
import HandS.Zip
import PyProof.Draws
import PyProof.EnumMake
import HandS.Wide
import HandS.TupAny
import HandS.IsInst
import HandS.Deep
import HandS.Rev
import HandS.TupLen
import HandS.WordsDict
import HandS.Replace
import HandS.ReplaceLit
import HandS.ReplaceDef
import HandS.Codes
import HandS.ReplaceList
import PySem.Challenge.RW_kindreach_k01_words_and_names
set_option Elab.async false
set_option linter.all false
set_option maxRecDepth 100000
namespace EV
open PyProof.Rows PySem L2 PySem.Spec

/-! ### data, owned values -/
inductive D where
  | non | bl (b : Bool) | int (i : Int) | str (s : Str)
  | tup (xs : List D) | lst (xs : List D) | dctK (kvs : List (Key × D)) | dctT (kvs : List (List Key × D)) | ins (c : Nat) (fs : List (Nat × D))
  deriving Inhabited
inductive O where
  | val (d : D) | lst (xs : List D) | dctK (kvs : List (Key × D)) | dctT (kvs : List (List Key × D))
  deriving Inhabited
def O.frz : O → D
  | .val d => d
  | .lst xs => .lst xs
  | .dctK kvs => .dctK kvs
  | .dctT kvs => .dctT kvs

abbrev Env := List (Option O)
def getS : Env → Nat → Option O
  | [], _ => none
  | x :: _, 0 => x
  | _ :: r, i + 1 => getS r i
def setS : Env → Nat → Option O → Env
  | [], _, _ => []
  | _ :: r, 0, o => o :: r
  | x :: r, i + 1, o => x :: setS r i o
def wipeS (ρ : Env) : List Nat → Env
  | [] => ρ
  | v :: vs => setS (wipeS ρ vs) v none
/-- the slots vs as they stand in ρ0 -/
def backS (ρ0 ρ : Env) : List Nat → Env
  | [] => ρ
  | v :: vs => setS (backS ρ0 ρ vs) v (getS ρ0 v)
def plainS (ρ : Env) (vs : List Nat) : Bool := vs.all fun v => match getS ρ v with
  | none => true
  | some (.val _) => true
  | _ => false

/-! ### the small operations -/
inductive Pr where
  | neg | add | sub | mul | fdiv | mod | pow | shl
  | eq | ne | lt | le | gt | ge | isN | notN | isin | notin
  | idx | fld (n : Nat) | slc (lo hi : Bool)
  | len | int | str | list | tuple | tupleL | sorted | sum | all | any | min1 | max1 | min2 | max2
  | isi (ts : List Nat)
  | join | split | upper | get1 | get2 | index | sindex | replace
  deriving DecidableEq
inductive ItK where
  | plain | rng1 | rng2 | enum | zip | rev | items | vals
  deriving DecidableEq
inductive Tg where
  | one (i : Nat) | many (is : List Nat)
  deriving DecidableEq
def Tg.slots : Tg → List Nat
  | .one i => [i]
  | .many is => is

inductive E where
  | fail
  | lit (d : D) | var (i : Nat) | mv (i : Nat) | sh (i : Nat) | bw (i : Nat) | rf (i : Nat) | glob (g : Nat)
  | op (p : Pr) (es : List E) | mop (p : Pr) (o : E) (es : List E)
  | tup (es : List E) | lst (es : List E) | dct0 (t : Bool)
  | and (a b : E) | or (a b : E) | not (a : E) | ite (c a b : E)
  | cmp2 (p q : Pr) (a b c : E)
  | call (f : Nat) (es : List E) | meth (f : Nat) (o : E) (es : List E) | new (c : Nat) (es : List E)
  | pop (i : Nat) | popAt (i : Nat) (e : E)
  | comp (tg : Tg) (k : ItK) (es : List E) (cs : List E) (e : E)
  | frz (e : E) | fr (e : E) | dctOf (t : Bool) (es : List E)
inductive Mu where
  | app | ext | rev | ins
  deriving DecidableEq
inductive S where
  | fail
  | asg (i : Nat) (e : E) | unp (is : List Nat) (e : E)
  | setI (i : Nat) (k e : E) | mut (m : Mu) (i : Nat) (es : List E) | ext (i : Nat) (e : E)
  | aug (i : Nat) (p : Pr) (e : E)
  | expr (e : E) | ret (e : E) | retN | pass | brk | cont
  | ite (c : E) (a b : List S) | for (tg : Tg) (k : ItK) (es : List E) (body : List S) | while (c : E) (body : List S)

/-! ### what the small operations tell -/
def truth : D → Option Bool
  | .non => some false
  | .bl b => some b
  | .int i => some (i != 0)
  | .str y => if y.length ≤ sizeLine then some ((y.length : Int) != 0) else none
  | .tup xs => some (!xs.isEmpty)
  | .lst xs => some (!xs.isEmpty)
  | _ => none

mutual
def toPy : D → Option PyData
  | .non => some .none
  | .bl b => some (.bool b)
  | .int i => some (.int i)
  | .str s => some (.str s)
  | .tup xs => (toPys xs).map .tuple
  | .lst xs => (toPys xs).map .list
  | .dctK _ => none
  | .dctT _ => none
  | .ins _ _ => none
def toPys : List D → Option (List PyData)
  | [] => some []
  | x :: xs => match toPy x, toPys xs with
    | some d, some ds => some (d :: ds)
    | _, _ => none
end

def scalD : D → Bool
  | .non | .bl _ | .int _ | .str _ => true
  | _ => false
/-- == of two scalars that the layer tells apart -/
def eqS : D → D → Option Bool
  | .non, .non => some true
  | .non, .int _ | .int _, .non | .non, .bl _ | .bl _, .non | .non, .str _ | .str _, .non => some false
  | .int i, .int j => some (decide (i = j))
  | .bl i, .bl j => some (decide (i = j))
  | .str i, .str j => some (decide (i = j))
  | .int _, .str _ | .str _, .int _ | .bl _, .str _ | .str _, .bl _ => some false
  | _, _ => none
def eqP (x y : D) : Option Bool := match toPy x, toPy y with
  | some a, some b => if SeqAt.shaped a && SeqAt.shaped b then some (PyData.eqv a b) else none
  | _, _ => none
def eqD (x y : D) : Option Bool := match eqS x y with
  | some b => some b
  | none => eqP x y

def flatD : D → Bool
  | .non | .bl _ | .int _ | .str _ => true
  | _ => false
/-- y == x of two flat things -/
def eqF : D → D → Bool
  | .non, .non => true
  | .bl a, .bl b => a == b
  | .bl a, .int b => (if a then 1 else 0) == b
  | .int a, .bl b => a == (if b then 1 else 0)
  | .int a, .int b => a == b
  | .str a, .str b => a == b
  | _, _ => false
def inF (x : D) (ys : List D) : Bool := ys.any fun y => eqF y x
def inP (x : D) (ys : List D) : Option Bool := match toPy x, toPys ys with
  | some a, some bs => if SeqAt.shaped a && PyData.canLayAll0 bs then some (bs.any fun b => PyData.eqv b a) else none
  | _, _ => none
def inL (x : D) (ys : List D) : Option Bool := if flatD x && ys.all flatD then some (inF x ys) else inP x ys

variable {κ : Type} [DecidableEq κ]
def aget (kvs : List (κ × D)) (k : κ) : Option D := (kvs.find? fun kv => decide (kv.1 = k)).map (·.2)
def aput (kvs : List (κ × D)) (k : κ) (v : D) : List (κ × D) :=
  if (kvs.any fun kv => decide (kv.1 = k)) then kvs.map fun kv => if kv.1 = k then (kv.1, v) else kv else kvs ++ [(k, v)]
def key1 : D → Option Key
  | .int i => some (.inl i)
  | .str s => some (.inr s)
  | _ => none
def keys1 : List D → Option (List Key)
  | [] => some []
  | x :: xs => match key1 x, keys1 xs with
    | some k, some ks => some (k :: ks)
    | _, _ => none
def keyT : D → Option (List Key)
  | .tup xs => keys1 xs
  | _ => none
def keyD : Key → D
  | .inl i => .int i
  | .inr s => .str s
/-- what a dict holds at a key: none where the key is none of its sort -/
def dget (d k : D) : Option (Option D) := match d with
  | .dctK kvs => (key1 k).map (aget kvs)
  | .dctT kvs => (keyT k).map (aget kvs)
  | _ => none

mutual
/-- the tuples that stand in data, as keys -/
def gkD : D → List (List Key)
  | .tup xs => (match keys1 xs with | some κ => [κ] | none => []) ++ gkA xs
  | .lst xs => gkA xs
  | _ => []
def gkA : List D → List (List Key)
  | [] => []
  | x :: xs => gkD x ++ gkA xs
end
def inGk (gk : List (List Key)) (κ : List Key) : Bool := gk.any fun x => decide (x = κ)
theorem inGk_iff {gk : List (List Key)} {κ : List Key} : inGk gk κ = true ↔ κ ∈ gk := by simp [inGk]
def pairsK : List D → Option (List (Key × D))
  | [] => some []
  | .tup [k, v] :: r => match key1 k, pairsK r with
    | some κ, some l => some ((κ, v) :: l)
    | _, _ => none
  | _ :: _ => none
/-- pairs whose keys are tuples that are none of gk -/
def pairsT (gk : List (List Key)) : List D → Option (List (List Key × D))
  | [] => some []
  | .tup [k, v] :: r => match keyT k, pairsT gk r with
    | some κ, some l => if inGk gk κ then none else some ((κ, v) :: l)
    | _, _ => none
  | _ :: _ => none
def mergA {κ : Type} [DecidableEq κ] (acc more : List (κ × D)) : List (κ × D) := more.foldl (fun acc kv => aput acc kv.1 kv.2) acc
/-- dict(list) -/
def dictO (gk : List (List Key)) (t : Bool) : List D → Option O
  | [.lst xs] => match t with
    | true => (pairsT gk xs).map fun kvs => .dctT (mergA [] kvs)
    | false => (pairsK xs).map fun kvs => .dctK (mergA [] kvs)
  | _ => none
def isTy1 : Nat → D → Bool
  | 0, .str _ => true
  | 1, .int _ => true
  | 1, .bl _ => true
  | 2, .tup _ => true
  | 3, .lst _ => true
  | 4, .bl _ => true
  | 5, .dctK _ => true
  | 5, .dctT _ => true
  | n, .ins c _ => n == c + 100
  | _, _ => false
def sign (c : Nat) : D := .str ⟨#[c]⟩
def cutL {α : Type} (xs : List α) (lo hi : Option Int) : List α := (xs.drop (HT.sIx xs.length 0 lo)).take (HT.sIx xs.length xs.length hi - HT.sIx xs.length 0 lo)
def cutD (x : D) (lo hi : Option Int) : Option O := match x with
  | .lst xs => some (.lst (cutL xs lo hi))
  | .tup xs => some (.val (.tup (cutL xs lo hi)))
  | .str z => if z.length ≤ sizeLine then some (.val (.str ⟨(cutL z.cps.toList lo hi).toArray⟩)) else none
  | _ => none
def allStr : List D → Option (List Str)
  | [] => some []
  | .str s :: r => (allStr r).map (s :: ·)
  | _ => none
def allInt : List D → Option (List Int)
  | [] => some []
  | .int s :: r => (allInt r).map (s :: ·)
  | _ => none
def allBl : List D → Option (List Bool)
  | [] => some []
  | .bl s :: r => (allBl r).map (s :: ·)
  | _ => none
def seqOf : D → Option (List D)
  | .lst xs => some xs
  | .tup xs => some xs
  | _ => none

def ob (b : Bool) : Option O := some (.val (.bl b))
def oi (i : Int) : Option O := some (.val (.int i))
def cmpI (x y : D) (f : Int → Int → Bool) (g : Str → Str → Bool) : Option O := match x, y with
  | .int i, .int j => ob (f i j)
  | .str i, .str j => ob (g i j)
  | _, _ => none
def isinD (x y : D) : Option Bool := match y with
  | .str j => match x with
    | .str ⟨⟨[c]⟩⟩ => some (decide (c ∈ j.cps.toList))
    | .str i => some (!(Builtin.Str.occurrences j i 0 j.length 1).isEmpty)
    | _ => none
  | .lst ys => inL x ys
  | .tup ys => inL x ys
  | d => (dget d x).map Option.isSome

def int2 (x y : D) (f : Int → Int → Option O) : Option O := match x, y with
  | .int i, .int j => f i j
  | _, _ => none
def addD : D → D → Option O
  | .int i, y => match y with
    | .int j => oi (i + j)
    | _ => none
  | .str i, y => match y with
    | .str j => if i.length + j.length ≤ sizeLine then some (.val (.str (i ++ j))) else none
    | _ => none
  | .lst xs, y => match y with
    | .lst ys => if xs.length + ys.length ≤ sizeLine then some (.lst (xs ++ ys)) else none
    | _ => none
  | .tup xs, y => match y with
    | .tup ys => if xs.length + ys.length ≤ sizeLine then some (.val (.tup (xs ++ ys))) else none
    | _ => none
  | _, _ => none
def isND (x y : D) (f : Bool → Bool) : Option O := match y with
  | .non => match x with
    | .non => ob (f true)
    | _ => ob (f false)
  | _ => none
def idxD : D → D → Option O
  | .lst xs, y => match y with
    | .int i => (atI xs i).map .val
    | _ => none
  | .tup xs, y => match y with
    | .int i => (atI xs i).map .val
    | _ => none
  | .str z, y => match y with
    | .int i => if z.length ≤ sizeLine then (atI z.cps.toList i).map fun c => .val (sign c) else none
    | _ => none
  | .dctK kvs, y => match dget (.dctK kvs) y with
    | some (some d) => some (.val d)
    | _ => none
  | .dctT kvs, y => match dget (.dctT kvs) y with
    | some (some d) => some (.val d)
    | _ => none
  | _, _ => none
def fldD (n : Nat) : D → Option O
  | .ins _ fs => (fs.lookup n).map .val
  | _ => none
def lenD : D → Option O
  | .str z => if z.length ≤ sizeLine then oi z.length else none
  | .lst xs => oi xs.length
  | .tup xs => oi xs.length
  | .dctK xs => oi xs.length
  | .dctT xs => oi xs.length
  | _ => none
def intD : D → Option O
  | .int i => oi i
  | .bl b => oi (if b then 1 else 0)
  | _ => none
def strD : D → Option O
  | .int i => if i.natAbs.log2 < 1920 then some (.val (.str (toString i))) else none
  | _ => none
def listD (x : D) : Option O := (seqOf x).map .lst
def tupleD (x : D) : Option O := (seqOf x).map fun xs => .val (.tup xs)
def lstD (x : D) (f : List D → Option O) : Option O := match x with
  | .lst xs => f xs
  | _ => none
def str1 (x : D) (f : Str → Option O) : Option O := match x with
  | .str s => f s
  | _ => none
def partD : D → Option (Option Int)
  | .int i => some (some i)
  | _ => none

/-- no list, no dict -/
def ownless : D → Bool
  | .lst _ | .dctK _ | .dctT _ => false
  | _ => true
def insS (x : Str) : List Str → List Str
  | [] => [x]
  | y :: r => match decide (y.cps.toList < x.cps.toList) with
    | true => y :: insS x r
    | false => x :: y :: r
def sortS : List Str → List Str
  | [] => []
  | x :: r => insS x (sortS r)
def prim : Pr → List D → Option O
  | .add, [x, y] => addD x y
  | .neg, [x] => match x with
    | .int i => oi (-i)
    | _ => none
  | .sub, [x, y] => int2 x y fun i j => oi (i - j)
  | .mul, [x, y] => match x with
    | .tup xs => match y with
      | .int k => if xs.isEmpty then none else if k = 1 then some (.val (.tup xs)) else if k = 0 then some (.val (.tup [])) else none
      | _ => none
    | .str z => match y with
      | .int k => if k = 1 then some (.val (.str z)) else if k = 0 then some (.val (.str Str.empty)) else none
      | _ => none
    | x => int2 x y fun i j => if (-(2 ^ 64) < i ∧ i < 2 ^ 64) ∨ (-(2 ^ 64) < j ∧ j < 2 ^ 64) then oi (i * j) else none
  | .fdiv, [x, y] => int2 x y fun i j => if 0 < j ∧ j < 2 ^ 64 then oi (i / j) else none
  | .mod, [x, y] => int2 x y fun i j => if 0 < j then oi (i % j) else none
  | .pow, [x, y] => int2 x y fun i j => if 0 ≤ j ∧ j ≤ 1000000 ∧ i.natAbs < 2 ^ 64 then oi (i ^ j.toNat) else none
  | .shl, [x, y] => int2 x y fun i j => if 0 ≤ j ∧ j ≤ 1000000 ∧ i.natAbs < 2 ^ 64 then oi (i * 2 ^ j.toNat) else none
  | .eq, [x, y] => (eqD x y).map fun b => .val (.bl b)
  | .ne, [x, y] => (eqD x y).map fun b => .val (.bl !b)
  | .lt, [x, y] => cmpI x y (fun i j => decide (i < j)) (fun i j => decide (i.cps.toList < j.cps.toList))
  | .le, [x, y] => cmpI x y (fun i j => decide (i ≤ j)) (fun i j => !decide (j.cps.toList < i.cps.toList))
  | .gt, [x, y] => cmpI x y (fun i j => decide (j < i)) (fun i j => decide (j.cps.toList < i.cps.toList))
  | .ge, [x, y] => cmpI x y (fun i j => decide (j ≤ i)) (fun i j => !decide (i.cps.toList < j.cps.toList))
  | .isN, [x, y] => isND x y id
  | .notN, [x, y] => isND x y not
  | .isin, [x, y] => (isinD x y).map fun b => .val (.bl b)
  | .notin, [x, y] => (isinD x y).map fun b => .val (.bl !b)
  | .idx, [x, y] => idxD x y
  | .fld n, [x] => fldD n x
  | .slc true true, [x, y, z] => (partD y).bind fun i => (partD z).bind fun j => cutD x i j
  | .slc true false, [x, y] => (partD y).bind fun i => cutD x i none
  | .slc false true, [x, z] => (partD z).bind fun j => cutD x none j
  | .slc false false, [x] => cutD x none none
  | .len, [x] => lenD x
  | .int, [x] => intD x
  | .str, [x] => strD x
  | .list, [x] => listD x
  | .tuple, [x] => tupleD x
  | .tupleL, [x] => lstD x fun xs => some (.val (.tup xs))
  | .sum, [x] => lstD x fun xs => (allInt xs).bind fun ns => oi ns.sum
  | .all, [x] => lstD x fun xs => (allBl xs).bind fun bs => ob (bs.all id)
  | .any, [x] => lstD x fun xs => (allBl xs).bind fun bs => ob (bs.any id)
  | .min2, [x, y] => int2 x y fun i j => oi (if j < i then j else i)
  | .max2, [x, y] => int2 x y fun i j => oi (if j > i then j else i)
  | .isi ts, [x] => ob (ts.any fun t => isTy1 t x)
  | .join, [a, x] => str1 a fun a => (seqOf x).bind fun xs => (allStr xs).bind fun ys =>
      if (ys.map (·.length)).sum + ys.length * a.length ≤ 16777216 then some (.val (.str (Txt.join a ys))) else none
  | .split, [a, b] => str1 a fun a => str1 b fun b => if (b.length == 0) = false ∧ a.length + 2 ≤ sizeLine then some (.lst ((Txt.split a b).map .str)) else none
  | .sorted, [x] => lstD x fun xs => (allStr xs).bind fun ys => if ys.length < 64 then some (.lst ((sortS ys).map .str)) else none
  | .get1, [d, k] => (dget d k).map fun r => .val (r.getD .non)
  | .get2, [d, k, x] => match ownless x with
    | true => (dget d k).map fun r => .val (r.getD x)
    | false => none
  | .replace, [x, y, z] => str1 x fun a => str1 y fun b => str1 z fun c => if (b == c) = false ∧ a.length + (a.length + 1) * c.length ≤ 16777216 then some (.val (.str (Txt.replace a b c))) else none
  | .upper, [x] => str1 x fun a => if a.length ≤ 5592405 then some (.val (.str (Txt.upper a))) else none
  | .sindex, [x, y] => str1 x fun a => str1 y fun b => match Builtin.Str.occurrences a b 0 a.length 1 with
    | i :: _ => oi (i : Nat)
    | [] => none
  | _, _ => none

/-- what a method's receiver is -/
def rcv : Pr → D → Bool
  | .join, .str _ => true
  | .split, .str _ => true
  | .upper, .str _ => true
  | .replace, .str _ => true
  | .sindex, .str _ => true
  | .get1, .dctK _ => true
  | .get2, .dctK _ => true
  | .get1, .dctT _ => true
  | .get2, .dctT _ => true
  | .index, .lst _ => true
  | _, _ => false
def rngL (lo : Int) (n : Nat) : List D := (List.range n).map fun (k : Nat) => .int (lo + (k : Int))
def enumL : Nat → List D → List D
  | _, [] => []
  | k, x :: xs => .tup [.int (k : Int), x] :: enumL (k + 1) xs
def zipL : List D → List D → List D
  | x :: xs, y :: ys => .tup [x, y] :: zipL xs ys
  | _, _ => []
def iterD : ItK → List D → Option (List D)
  | .plain, [.lst xs] => some xs
  | .plain, [.tup xs] => some xs
  | .plain, [.str z] => some (z.cps.toList.map sign)
  | .rng1, [.int n] => if -(2 ^ 62) ≤ n ∧ n < 2 ^ 62 then some (rngL 0 n.toNat) else none
  | .rng2, [.int i, .int j] => if -(2 ^ 62) ≤ i ∧ i < 2 ^ 62 ∧ -(2 ^ 62) ≤ j ∧ j < 2 ^ 62 then some (rngL i (j - i).toNat) else none
  | .enum, [.lst xs] => some (enumL 0 xs)
  | .enum, [.tup xs] => some (enumL 0 xs)
  | .zip, [.lst xs, .lst ys] => some (zipL xs ys)
  | .zip, [.tup xs, .tup ys] => some (zipL xs ys)
  | .rev, [.lst xs] => some xs.reverse
  | .rev, [.tup xs] => some xs.reverse
  | _, _ => none

/-! ### the run -/
def bindMany : List Nat → List D → Env → Option Env
  | [], [], ρ => some ρ
  | i :: is, d :: ds, ρ => bindMany is ds (setS ρ i (some (.val d)))
  | _, _, _ => none
def bindT : Tg → D → Env → Option Env
  | .one i, d, ρ => some (setS ρ i (some (.val d)))
  | .many is, .tup ds, ρ => bindMany is ds ρ
  | _, _, _ => none
def compGo (step : D → Env → Option (Option D × Env)) : List D → Env → Option (List D × Env)
  | [], ρ => some ([], ρ)
  | x :: xs, ρ => match step x ρ with
    | none => none
    | some (o, ρ') => match compGo step xs ρ' with
      | none => none
      | some (ds, ρ'') => some (o.toList ++ ds, ρ'')
abbrev CallF := Nat → List O → Option (O × List (Option O))
/-- the arguments that are handed by reference are taken from their slots -/
def takeA : List E → List O → Env → Option (List O × Env)
  | [], [], ρ => some ([], ρ)
  | .rf i :: es, _ :: ds, ρ => match getS ρ i with
    | none => none
    | some o => match takeA es ds (setS ρ i none) with
      | none => none
      | some (os, ρ') => some (o :: os, ρ')
  | _ :: es, o :: ds, ρ => match takeA es ds ρ with
    | none => none
    | some (os, ρ') => some (o :: os, ρ')
  | _, _, _ => none
def giveA : List E → List (Option O) → Env → Env
  | .rf i :: es, o :: os, ρ => giveA es os (setS ρ i o)
  | _ :: es, _ :: os, ρ => giveA es os ρ
  | _, _, ρ => ρ
/-- an argument made anew is handed as it is, all others frozen -/
def keepO : E → O → O
  | .fr _, o => o
  | _, o => .val o.frz
def chk {α : Type} (b : Bool) (x : α) : Option α := if b then some x else none

/-- in a test's place the value's truth -/
def post (m : Bool) (o : O) (ρ : Env) : Option (O × Env) := match m with
  | false => some (o, ρ)
  | true => match truth o.frz with
    | some b => some (.val (.bl b), ρ)
    | none => none

section
variable (G : List D) (CL : List (List Nat)) (C : CallF)
mutual
/-- m: a test's place -/
def ev : E → Bool → Env → Option (O × Env)
  | .fail, _, _ => none
  | .lit d, m, ρ => post m (.val d) ρ
  | .var i, m, ρ => match getS ρ i with
    | some (.val d) => post m (.val d) ρ
    | _ => none
  | .mv i, m, ρ => match getS ρ i with
    | some o => post m o (setS ρ i none)
    | none => none
  | .sh i, m, ρ => match getS ρ i with
    | some o => post m (.val o.frz) (setS ρ i (some (.val o.frz)))
    | none => none
  | .bw i, m, ρ => match m with
    | true => match getS ρ i with
      | some o => post true o ρ
      | none => none
    | false => match getS ρ i with
      | some (.val d) => some (.val d, ρ)
      | _ => none
  | .rf _, _, _ => none
  | .fr e, m, ρ => match m with
    | true => none
    | false => ev e false ρ
  | .glob g, m, ρ => match G[g]? with
    | some d => post m (.val d) ρ
    | none => none
  | .op p es, m, ρ => match evO es ρ with
    | none => none
    | some (ds, ρ') => match prim p ds with
      | none => none
      | some o => post m o ρ'
  | .mop p o es, m, ρ => match o with
    | .bw i => match getS ρ i with
      | none => none
      | some o0 => match rcv p o0.frz with
        | false => none
        | true => match evO es ρ with
          | none => none
          | some (ds, ρ') => match getS ρ' i with
            | none => none
            | some o1 => match prim p (o1.frz :: ds) with
              | none => none
              | some r => post m r ρ'
    | _ => match ev o false ρ with
      | none => none
      | some (o0, ρ1) => match rcv p o0.frz with
        | false => none
        | true => match evO es ρ1 with
          | none => none
          | some (ds, ρ') => match prim p (o0.frz :: ds) with
            | none => none
            | some r => post m r ρ'
  | .tup es, m, ρ => match evV es ρ with
    | none => none
    | some (ds, ρ') => if ds.length ≤ sizeLine then post m (.val (.tup ds)) ρ' else none
  | .lst es, m, ρ => match evV es ρ with
    | none => none
    | some (ds, ρ') => if ds.length ≤ sizeLine then post m (.lst ds) ρ' else none
  | .dct0 t, m, ρ => post m (if t then .dctT [] else .dctK []) ρ
  | .and a b, m, ρ => match ev a m ρ with
    | none => none
    | some (o, ρ') => match o.frz with
      | .bl true => ev b m ρ'
      | .bl false => some (.val (.bl false), ρ')
      | _ => none
  | .or a b, m, ρ => match ev a m ρ with
    | none => none
    | some (o, ρ') => match o.frz with
      | .bl true => some (.val (.bl true), ρ')
      | .bl false => ev b m ρ'
      | _ => none
  | .not a, m, ρ => match ev a m ρ with
    | none => none
    | some (o, ρ') => match o.frz with
      | .bl b => some (.val (.bl !b), ρ')
      | _ => none
  | .ite c a b, m, ρ => match m with
    | true => none
    | false => match ev c true ρ with
      | none => none
      | some (o, ρ') => match o.frz with
        | .bl true => ev a false ρ'
        | .bl false => ev b false ρ'
        | _ => none
  | .cmp2 p q a b c, m, ρ => match ev a false ρ with
    | none => none
    | some (x, ρ1) => match ev b false ρ1 with
      | none => none
      | some (y, ρ2) => match prim p [x.frz, y.frz] with
        | some (.val (.bl true)) => match ev c false ρ2 with
          | none => none
          | some (z, ρ3) => match prim q [y.frz, z.frz] with
            | some (.val (.bl b)) => some (.val (.bl b), ρ3)
            | _ => none
        | some (.val (.bl false)) => some (.val (.bl false), ρ2)
        | _ => none
  | .call f es, m, ρ => match evA es ρ with
    | none => none
    | some (ds, ρ1) => match takeA es ds ρ1 with
      | none => none
      | some (os, ρ2) => match C f os with
        | none => none
        | some (r, ps) => post m r (giveA es ps ρ2)
  | .meth f o es, m, ρ => match ev o false ρ with
    | some (.val (.ins c fs), ρ0) => match evA es ρ0 with
      | none => none
      | some (ds, ρ1) => match takeA es ds ρ1 with
        | none => none
        | some (os, ρ2) => match C f (.val (.ins c fs) :: os) with
          | none => none
          | some (r, ps) => post m r (giveA es ps.tail ρ2)
    | _ => none
  | .new c es, m, ρ => match evV es ρ with
    | none => none
    | some (ds, ρ') => match CL[c]? with
      | none => none
      | some ns => if m = false ∧ ns.length = ds.length then some (.val (.ins c (ns.zip ds)), ρ') else none
  | .pop i, m, ρ => match getS ρ i with
    | some (.lst xs) => match xs.getLast? with
      | some d => post m (.val d) (setS ρ i (some (.lst xs.dropLast)))
      | none => none
    | _ => none
  | .popAt i e, m, ρ => match getS ρ i with
    | some (.lst _) => match ev e false ρ with
      | none => none
      | some (o, ρ') => match o.frz, getS ρ' i with
        | .int k, some (.lst xs) => match ixN xs.length k with
          | some j => match xs[j]? with
            | some d => if -(2 ^ 63) ≤ k ∧ k < 2 ^ 63 then post m (.val d) (setS ρ' i (some (.lst (xs.eraseIdx j)))) else none
            | none => none
          | none => none
        | _, _ => none
    | _ => none
  | .comp tg k es cs e, m, ρ => match evV es ρ with
    | none => none
    | some (ds, ρ1) => match iterD k ds with
      | none => none
      | some xs => match plainS ρ1 tg.slots with
        | false => none
        | true => match compGo (fun x ρ2 => match bindT tg x ρ2 with
            | none => none
            | some ρ3 => match evC cs ρ3 with
              | none => none
              | some (false, ρ4) => some (none, wipeS ρ4 tg.slots)
              | some (true, ρ4) => match ev e false ρ4 with
                | none => none
                | some (o, ρ5) => some (some o.frz, wipeS ρ5 tg.slots)) xs (wipeS ρ1 tg.slots) with
          | none => none
          | some (ds, ρ6) => if ds.length ≤ sizeLine then post m (.lst ds) (backS ρ1 ρ6 tg.slots) else none
  | .frz e, m, ρ => match ev e false ρ with
    | none => none
    | some (o, ρ') => post m (.val o.frz) ρ'
  | .dctOf t es, m, ρ => match evO es ρ with
    | none => none
    | some (ds, ρ') => match dictO (gkA G) t ds with
      | none => none
      | some o => post m o ρ'
/-- operands: what is looked at in a slot is looked at behind all others -/
def evO : List E → Env → Option (List D × Env)
  | [], ρ => some ([], ρ)
  | e :: es, ρ => match e with
    | .bw i => match getS ρ i with
      | none => none
      | some _ => match evO es ρ with
        | none => none
        | some (ds, ρ') => match getS ρ' i with
          | none => none
          | some o => some (o.frz :: ds, ρ')
    | _ => match ev e false ρ with
      | none => none
      | some (o, ρ1) => match evO es ρ1 with
        | none => none
        | some (ds, ρ') => some (o.frz :: ds, ρ')
/-- values -/
def evV : List E → Env → Option (List D × Env)
  | [], ρ => some ([], ρ)
  | e :: es, ρ => match ev e false ρ with
    | none => none
    | some (o, ρ1) => match evV es ρ1 with
      | none => none
      | some (ds, ρ') => some (o.frz :: ds, ρ')
/-- arguments: by reference none yet -/
def evA : List E → Env → Option (List O × Env)
  | [], ρ => some ([], ρ)
  | e :: es, ρ => match e with
    | .rf i => match getS ρ i with
      | none => none
      | some _ => match evA es ρ with
        | none => none
        | some (ds, ρ') => some (.val .non :: ds, ρ')
    | _ => match ev e false ρ with
      | none => none
      | some (o, ρ1) => match evA es ρ1 with
        | none => none
        | some (ds, ρ') => some (keepO e o :: ds, ρ')
/-- a comprehension's tests: none or one -/
def evC : List E → Env → Option (Bool × Env)
  | [], ρ => some (true, ρ)
  | c :: cs, ρ => match ev c true ρ with
    | some (.val (.bl b), ρ') => match cs with
      | [] => some (b, ρ')
      | _ => none
    | _ => none
end
end

/-! ### statements -/
inductive Flow where
  | nx | rt (o : O) | bk | ct
def forGo (bind : D → Env → Option Env) (body : Env → Option (Flow × Env)) : List D → Env → Option (Flow × Env)
  | [], ρ => some (.nx, ρ)
  | x :: xs, ρ => match bind x ρ with
    | none => none
    | some ρ1 => match body ρ1 with
      | none => none
      | some (.nx, ρ2) => forGo bind body xs ρ2
      | some (.ct, ρ2) => forGo bind body xs ρ2
      | some (.bk, ρ2) => some (.nx, ρ2)
      | some (.rt o, ρ2) => some (.rt o, ρ2)
def whileGo (test : Env → Option (O × Env)) (body : Env → Option (Flow × Env)) : Nat → Env → Option (Flow × Env)
  | 0, _ => none
  | n + 1, ρ => match test ρ with
    | some (.val (.bl true), ρ1) => match body ρ1 with
      | none => none
      | some (.nx, ρ2) => whileGo test body n ρ2
      | some (.ct, ρ2) => whileGo test body n ρ2
      | some (.bk, ρ2) => some (.nx, ρ2)
      | some (.rt o, ρ2) => some (.rt o, ρ2)
    | some (.val (.bl false), ρ1) => some (.nx, ρ1)
    | _ => none
/-- a list in a slot changed -/
def mutO (m : Mu) (o : O) (ds : List D) : Option O := match o, m, ds with
  | .lst xs, .app, [d] => if xs.length < sizeLine then some (.lst (xs ++ [d])) else none
  | .lst xs, .rev, [] => some (.lst xs.reverse)
  | _, _, _ => none
def setO (fr : List Key → Bool) (o : O) (k d : D) : Option O := match o with
  | .lst xs => match k with
    | .int i => (ixN xs.length i).map fun j => .lst (xs.set j d)
    | _ => none
  | .dctK kvs => if kvs.length < sizeLine then (key1 k).map fun k => .dctK (aput kvs k d) else none
  | .dctT kvs => if kvs.length < sizeLine then match keyT k with
      | some k => match fr k with
        | true => some (.dctT (aput kvs k d))
        | false => none
      | none => none
    else none
  | _ => none
/-- a tuple made anew -/
def frsh : E → Bool
  | .tup _ => true
  | .op .tupleL [_] => true
  | _ => false
/-- a key that is made anew, or none of the globals' -/
def keyOk (G : List D) (e : E) (κ : List Key) : Bool := frsh e || !inGk (gkA G) κ

section
variable (G : List D) (CL : List (List Nat)) (W : Nat) (C : CallF)
mutual
def evS : S → Env → Option (Flow × Env)
  | .fail, _ => none
  | .asg i e, ρ => match ev G CL C e false ρ with
    | none => none
    | some (o, ρ') => some (.nx, setS ρ' i (some o))
  | .unp is e, ρ => match ev G CL C e false ρ with
    | none => none
    | some (o, ρ') => match bindT (.many is) o.frz ρ' with
      | none => none
      | some ρ'' => some (.nx, ρ'')
  | .setI i k e, ρ => match ev G CL C e false ρ with
    | none => none
    | some (d, ρ1) => match getS ρ1 i with
      | none => none
      | some _ => match ev G CL C k false ρ1 with
        | none => none
        | some (kd, ρ2) => match getS ρ2 i with
          | none => none
          | some o => match setO (keyOk G k) o kd.frz d.frz with
            | none => none
            | some o' => some (.nx, setS ρ2 i (some o'))
  | .mut m i es, ρ => match getS ρ i with
    | some (.lst _) => match evV G CL C es ρ with
      | none => none
      | some (ds, ρ') => match getS ρ' i with
        | none => none
        | some o => match mutO m o ds with
          | none => none
          | some o' => some (.nx, setS ρ' i (some o'))
    | _ => none
  | .ext i e, ρ => match getS ρ i with
    | some (.lst _) => match ev G CL C e false ρ with
      | some (.lst ys, ρ') => match getS ρ' i with
        | some (.lst xs) => if xs.length + ys.length ≤ sizeLine then some (.nx, setS ρ' i (some (.lst (xs ++ ys)))) else none
        | _ => none
      | _ => none
    | _ => none
  | .aug i p e, ρ => match getS ρ i with
    | some (.val (.int a)) => match ev G CL C e false ρ with
      | none => none
      | some (y, ρ') => match y.frz with
        | .int b => match prim p [.int a, .int b] with
          | some (.val (.int r)) => some (.nx, setS ρ' i (some (.val (.int r))))
          | _ => none
        | _ => none
    | _ => none
  | .expr e, ρ => match ev G CL C e false ρ with
    | none => none
    | some (_, ρ') => some (.nx, ρ')
  | .ret e, ρ => match ev G CL C e false ρ with
    | none => none
    | some (o, ρ') => some (.rt o, ρ')
  | .retN, ρ => some (.rt (.val .non), ρ)
  | .pass, ρ => some (.nx, ρ)
  | .brk, ρ => some (.bk, ρ)
  | .cont, ρ => some (.ct, ρ)
  | .ite c a b, ρ => match ev G CL C c true ρ with
    | some (.val (.bl true), ρ') => evSs a ρ'
    | some (.val (.bl false), ρ') => evSs b ρ'
    | _ => none
  | .for tg k es body, ρ => match evV G CL C es ρ with
    | none => none
    | some (ds, ρ1) => match iterD k ds with
      | none => none
      | some xs => forGo (bindT tg) (evSs body) xs ρ1
  | .while c body, ρ => whileGo (ev G CL C c true) (evSs body) W ρ
def evSs : List S → Env → Option (Flow × Env)
  | [], ρ => some (.nx, ρ)
  | s :: ss, ρ => match evS s ρ with
    | none => none
    | some (.nx, ρ') => evSs ss ρ'
    | some (f, ρ') => some (f, ρ')
end
end
structure Fn where
  np : Nat
  ns : Nat
  cl : Option Nat
  body : List S
structure Tab where
  G : List D
  CL : List (List Nat)
  W : Nat
  fns : List Fn
def startS (ns : Nat) (os : List O) : Env := os.map some ++ List.replicate (ns - os.length) none
def selfOk : Option Nat → List O → Bool
  | none, _ => true
  | some c, .val (.ins c' _) :: _ => c' == c
  | _, _ => false
def headS : Env → Nat → Env
  | _, 0 => []
  | [], n + 1 => none :: headS [] n
  | x :: r, n + 1 => x :: headS r n
def evF (T : Tab) : Nat → CallF
  | 0, _, _ => none
  | n + 1, f, os => match T.fns[f]? with
    | none => none
    | some F => match (os.length == F.np) && selfOk F.cl os with
      | true => match evSs T.G T.CL T.W (evF T n) F.body (startS F.ns os) with
        | some (.rt o, ρ) => some (o, headS ρ F.np)
        | some (.nx, ρ) => some (.val .non, headS ρ F.np)
        | _ => none
      | false => none
/-- [word for word in text.replace(a, b).split(c) if word != d], text in slot 0, word in slot 1 -/
def wSplit : E := .mop .split (.op .replace [.var 0, .lit (.str "\n"), .lit (.str " ")]) [.lit (.str " ")]
def wordsE : E := .comp (.one 1) .plain [wSplit] [.op .ne [.var 1, .lit (.str "")]] (.var 1)
end EV

namespace EV
open PyProof.Rows PySem L2 PySem.Spec

structure Mt where
  K : PySem.W.Frag
  cl : Nat → Addr
  fn : Nat → Str
  nc : Nat
  gk : List (List Key)
/-- a tuple: tracked, or one of the globals' (its keys are in gk) -/
def TrT (M : Mt) (Z : Hp) (a : Addr) (ds : List D) (xs : List V) : Prop := Z a = some (.tup xs) ∨ (SqT M.K Z a xs ∧ ∀ κ, keys1 ds = some κ → κ ∈ M.gk)

section
variable (M : Mt) (Z : Hp)
mutual
/-- a frozen thing: d stands at v, in what is never written again -/
def Rp : D → V → Prop
  | .non, v => v = .non
  | .bl b, v => v = .bl b
  | .int i, v => v = .int i
  | .str s, v => v = .str s
  | .tup ds, v => ∃ a xs, v = .ref a ∧ TrT M Z a ds xs ∧ RpA ds xs
  | .lst ds, v => ∃ a xs, v = .ref a ∧ SqL M.K Z a xs ∧ RpA ds xs
  | .dctK ds, v => ∃ a xs, v = .ref a ∧ Z a = some (.dK xs) ∧ RpK ds xs
  | .dctT ds, v => ∃ a xs, v = .ref a ∧ Z a = some (.dT xs) ∧ RpT ds xs
  | .ins c ds, v => ∃ a dx xs, v = .ref a ∧ Z a = some (.ins (M.cl c) dx xs) ∧ c < M.nc ∧ RpF ds xs
def RpA : List D → List V → Prop
  | [], xs => xs = []
  | d :: ds, xs => ∃ v vs, xs = v :: vs ∧ Rp d v ∧ RpA ds vs
def RpK : List (Key × D) → List (Key × V) → Prop
  | [], xs => xs = []
  | (k, d) :: ds, xs => ∃ v vs, xs = (k, v) :: vs ∧ Rp d v ∧ RpK ds vs
def RpT : List (List Key × D) → List (List Key × V) → Prop
  | [], xs => xs = []
  | (k, d) :: ds, xs => ∃ v vs, xs = (k, v) :: vs ∧ Rp d v ∧ RpT ds vs
def RpF : List (Nat × D) → List (Str × V) → Prop
  | [], xs => xs = []
  | (k, d) :: ds, xs => ∃ v vs, xs = (M.fn k, v) :: vs ∧ Rp d v ∧ RpF ds vs
end
end

/-- all that Z holds H holds -/
def Sub (Z H : Hp) : Prop := ∀ a o, Z a = some o → H a = some o
theorem Sub.refl (Z : Hp) : Sub Z Z := fun _ _ h => h
theorem Sub.trans {Z H I : Hp} (a : Sub Z H) (b : Sub H I) : Sub Z I := fun c o h => b c o (a c o h)
theorem Sub.rd {Z H : Hp} {a : Addr} {u : HO} (s : Sub Z H) (h : Rd Z a u) : Rd H a u := by
  rcases h with h | ⟨o, h⟩
  · exact .inl (s _ _ h)
  · exact .inr ⟨o, s _ _ h⟩
theorem Sub.sl {K : PySem.W.Frag} {Z H : Hp} {a : Addr} {xs : List V} (s : Sub Z H) (h : SqL K Z a xs) : SqL K H a xs := by
  rcases h with h | h
  · exact .inl (s.rd h)
  · exact .inr h
theorem Sub.st {K : PySem.W.Frag} {Z H : Hp} {a : Addr} {xs : List V} (s : Sub Z H) (h : SqT K Z a xs) : SqT K H a xs := by
  rcases h with h | h
  · exact .inl (s.rd h)
  · exact .inr h
theorem TrT.sq {M : Mt} {Z : Hp} {a : Addr} {ds : List D} {xs : List V} (h : TrT M Z a ds xs) : SqT M.K Z a xs := h.elim (fun h => .inl (.inl h)) fun h => h.1
theorem TrT.mono {M : Mt} {Z Z' : Hp} {a : Addr} {ds : List D} {xs : List V} (s : Sub Z Z') (h : TrT M Z a ds xs) : TrT M Z' a ds xs := h.elim (fun h => .inl (s _ _ h)) fun h => .inr ⟨s.st h.1, h.2⟩
section
variable {M : Mt} {Z Z' : Hp}
mutual
theorem Rp.mono (s : Sub Z Z') : ∀ (d : D) (v : V), Rp M Z d v → Rp M Z' d v
  | .non, _, h => h
  | .bl _, _, h => h
  | .int _, _, h => h
  | .str _, _, h => h
  | .tup ds, v, h => by
    obtain ⟨a, xs, e, h1, h2⟩ := h
    exact ⟨a, xs, e, h1.mono s, RpA.mono s ds xs h2⟩
  | .lst ds, v, h => by
    obtain ⟨a, xs, e, h1, h2⟩ := h
    exact ⟨a, xs, e, s.sl h1, RpA.mono s ds xs h2⟩
  | .dctK ds, v, h => by
    obtain ⟨a, xs, e, h1, h2⟩ := h
    exact ⟨a, xs, e, s _ _ h1, RpK.mono s ds xs h2⟩
  | .dctT ds, v, h => by
    obtain ⟨a, xs, e, h1, h2⟩ := h
    exact ⟨a, xs, e, s _ _ h1, RpT.mono s ds xs h2⟩
  | .ins c ds, v, h => by
    obtain ⟨a, dx, xs, e, h1, h0, h2⟩ := h
    exact ⟨a, dx, xs, e, s _ _ h1, h0, RpF.mono s ds xs h2⟩
theorem RpA.mono (s : Sub Z Z') : ∀ (ds : List D) (xs : List V), RpA M Z ds xs → RpA M Z' ds xs
  | [], _, h => h
  | d :: ds, xs, h => by
    obtain ⟨v, vs, e, h1, h2⟩ := h
    exact ⟨v, vs, e, Rp.mono s d v h1, RpA.mono s ds vs h2⟩
theorem RpK.mono (s : Sub Z Z') : ∀ (ds : List (Key × D)) (xs : List (Key × V)), RpK M Z ds xs → RpK M Z' ds xs
  | [], _, h => h
  | (k, d) :: ds, xs, h => by
    obtain ⟨v, vs, e, h1, h2⟩ := h
    exact ⟨v, vs, e, Rp.mono s d v h1, RpK.mono s ds vs h2⟩
theorem RpT.mono (s : Sub Z Z') : ∀ (ds : List (List Key × D)) (xs : List (List Key × V)), RpT M Z ds xs → RpT M Z' ds xs
  | [], _, h => h
  | (k, d) :: ds, xs, h => by
    obtain ⟨v, vs, e, h1, h2⟩ := h
    exact ⟨v, vs, e, Rp.mono s d v h1, RpT.mono s ds vs h2⟩
theorem RpF.mono (s : Sub Z Z') : ∀ (ds : List (Nat × D)) (xs : List (Str × V)), RpF M Z ds xs → RpF M Z' ds xs
  | [], _, h => h
  | (k, d) :: ds, xs, h => by
    obtain ⟨v, vs, e, h1, h2⟩ := h
    exact ⟨v, vs, e, Rp.mono s d v h1, RpF.mono s ds vs h2⟩
end
theorem RpA.length : ∀ {ds : List D} {xs : List V}, RpA M Z ds xs → xs.length = ds.length
  | [], _, h => by cases h; rfl
  | d :: ds, _, h => by
    obtain ⟨v, vs, rfl, h1, h2⟩ := h
    simp [RpA.length h2]
theorem RpA.get : ∀ {ds : List D} {xs : List V}, RpA M Z ds xs → ∀ {i : Nat} {d : D}, ds[i]? = some d → ∃ v, xs[i]? = some v ∧ Rp M Z d v
  | [], _, _, i, d, e => by simp at e
  | x :: ds, _, h, 0, d, e => by
    obtain ⟨v, vs, rfl, h1, h2⟩ := h
    simp at e; subst e
    exact ⟨v, rfl, h1⟩
  | x :: ds, _, h, i + 1, d, e => by
    obtain ⟨v, vs, rfl, h1, h2⟩ := h
    simp at e
    simpa using RpA.get h2 e
theorem RpA.append : ∀ {ds es : List D} {xs ys : List V}, RpA M Z ds xs → RpA M Z es ys → RpA M Z (ds ++ es) (xs ++ ys)
  | [], _, _, _, h, h' => by cases h; exact h'
  | d :: ds, _, _, _, h, h' => by
    obtain ⟨v, vs, rfl, h1, h2⟩ := h
    exact ⟨v, _, rfl, h1, RpA.append h2 h'⟩
theorem RpA.snoc {ds : List D} {xs : List V} {d : D} {v : V} (h : RpA M Z ds xs) (h1 : Rp M Z d v) : RpA M Z (ds ++ [d]) (xs ++ [v]) :=
  h.append ⟨v, [], rfl, h1, rfl⟩
theorem RpA.take : ∀ {ds : List D} {xs : List V} (n : Nat), RpA M Z ds xs → RpA M Z (ds.take n) (xs.take n)
  | _, _, 0, _ => by rw [List.take_zero, List.take_zero]; exact rfl
  | [], _, n + 1, h => by cases h; simp [RpA]
  | d :: ds, _, n + 1, h => by
    obtain ⟨v, vs, rfl, h1, h2⟩ := h
    exact ⟨v, _, rfl, h1, RpA.take n h2⟩
theorem RpA.drop : ∀ {ds : List D} {xs : List V} (n : Nat), RpA M Z ds xs → RpA M Z (ds.drop n) (xs.drop n)
  | _, _, 0, h => h
  | [], _, n + 1, h => by cases h; simp [RpA]
  | d :: ds, _, n + 1, h => by
    obtain ⟨v, vs, rfl, h1, h2⟩ := h
    exact RpA.drop n h2
theorem RpA.set : ∀ {ds : List D} {xs : List V} (i : Nat) {d : D} {v : V}, RpA M Z ds xs → Rp M Z d v → RpA M Z (ds.set i d) (xs.set i v)
  | [], _, _, _, _, h, _ => by cases h; simp [RpA]
  | x :: ds, _, 0, d, v, h, hd => by
    obtain ⟨v', vs, rfl, h1, h2⟩ := h
    exact ⟨v, vs, rfl, hd, h2⟩
  | x :: ds, _, i + 1, d, v, h, hd => by
    obtain ⟨v', vs, rfl, h1, h2⟩ := h
    exact ⟨v', _, rfl, h1, RpA.set i h2 hd⟩
theorem RpA.rev : ∀ {ds : List D} {xs : List V}, RpA M Z ds xs → RpA M Z ds.reverse xs.reverse
  | [], _, h => by cases h; simp [RpA]
  | d :: ds, _, h => by
    obtain ⟨v, vs, rfl, h1, h2⟩ := h
    rw [List.reverse_cons, List.reverse_cons]
    exact RpA.snoc (RpA.rev h2) h1
theorem RpA.dropLast : ∀ {ds : List D} {xs : List V}, RpA M Z ds xs → RpA M Z ds.dropLast xs.dropLast := fun {ds xs} h => by
  rw [List.dropLast_eq_take, List.dropLast_eq_take, h.length]
  exact h.take _
theorem RpA.eraseIdx : ∀ {ds : List D} {xs : List V} (i : Nat), RpA M Z ds xs → RpA M Z (ds.eraseIdx i) (xs.eraseIdx i)
  | [], _, _, h => by cases h; simp [RpA]
  | x :: ds, _, 0, h => by
    obtain ⟨v', vs, rfl, h1, h2⟩ := h
    exact h2
  | x :: ds, _, i + 1, h => by
    obtain ⟨v', vs, rfl, h1, h2⟩ := h
    exact ⟨v', _, rfl, h1, RpA.eraseIdx i h2⟩
end

/-! ### slots -/
theorem getS_lt : ∀ {ρ : Env} {i : Nat} {o : O}, getS ρ i = some o → i < ρ.length
  | [], _, _, h => by cases h
  | _ :: _, 0, _, _ => by simp
  | _ :: r, i + 1, o, h => by
    have := getS_lt (ρ := r) (i := i) h
    simp; omega
theorem setS_length : ∀ (ρ : Env) (i : Nat) (o : Option O), (setS ρ i o).length = ρ.length
  | [], _, _ => rfl
  | _ :: _, 0, _ => rfl
  | _ :: r, i + 1, o => by simp [setS, setS_length r i o]
theorem getS_set : ∀ (ρ : Env) (i j : Nat) (o : Option O), getS (setS ρ i o) j = if j = i then (if i < ρ.length then o else none) else getS ρ j
  | [], i, j, o => by
    simp [setS, getS]
  | x :: r, 0, 0, o => by simp [setS, getS]
  | x :: r, 0, j + 1, o => by simp [setS, getS]
  | x :: r, i + 1, 0, o => by simp [setS, getS]
  | x :: r, i + 1, j + 1, o => by
    simp only [setS, getS, getS_set r i j o, List.length_cons]
    by_cases h : j = i
    · subst h; simp
    · rw [if_neg h, if_neg (by omega)]
theorem getS_set_ne {ρ : Env} {i j : Nat} {o : Option O} (h : j ≠ i) : getS (setS ρ i o) j = getS ρ j := by rw [getS_set, if_neg h]
theorem getS_set_eq {ρ : Env} {i : Nat} {o : Option O} (h : i < ρ.length) : getS (setS ρ i o) i = o := by rw [getS_set, if_pos rfl, if_pos h]
theorem getS_set_some {ρ : Env} {i j : Nat} {o : Option O} {x : O} (h : getS (setS ρ i o) j = some x) : (j = i ∧ o = some x) ∨ (j ≠ i ∧ getS ρ j = some x) := by
  rw [getS_set] at h
  by_cases e : j = i
  · rw [if_pos e] at h
    split at h
    · exact .inl ⟨e, h⟩
    · cases h
  · rw [if_neg e] at h
    exact .inr ⟨e, h⟩
theorem wipeS_length (ρ : Env) : ∀ vs, (wipeS ρ vs).length = ρ.length
  | [] => rfl
  | v :: vs => by rw [wipeS, setS_length, wipeS_length ρ vs]
theorem wipeS_some {ρ : Env} {i : Nat} {o : O} : ∀ {vs : List Nat}, getS (wipeS ρ vs) i = some o → getS ρ i = some o ∧ i ∉ vs
  | [], h => ⟨h, by simp⟩
  | v :: vs, h => by
    rw [wipeS] at h
    rcases getS_set_some h with ⟨_, z⟩ | ⟨ne, h⟩
    · cases z
    · obtain ⟨h1, h2⟩ := wipeS_some h
      exact ⟨h1, by simp only [List.mem_cons, not_or]; exact ⟨ne, h2⟩⟩
theorem wipeS_of {ρ : Env} {i : Nat} {o : O} : ∀ {vs : List Nat}, getS ρ i = some o → i ∉ vs → getS (wipeS ρ vs) i = some o
  | [], h, _ => h
  | v :: vs, h, hn => by
    simp only [List.mem_cons, not_or] at hn
    rw [wipeS, getS_set_ne hn.1]
    exact wipeS_of h hn.2
theorem backS_length (ρ0 ρ : Env) : ∀ vs, (backS ρ0 ρ vs).length = ρ.length
  | [] => rfl
  | v :: vs => by rw [backS, setS_length, backS_length ρ0 ρ vs]
theorem backS_some {ρ0 ρ : Env} {i : Nat} {o : O} : ∀ {vs : List Nat}, getS (backS ρ0 ρ vs) i = some o → (i ∈ vs ∧ getS ρ0 i = some o) ∨ (i ∉ vs ∧ getS ρ i = some o)
  | [], h => .inr ⟨by simp, h⟩
  | v :: vs, h => by
    rw [backS] at h
    rcases getS_set_some h with ⟨e, z⟩ | ⟨ne, h⟩
    · subst e; exact .inl ⟨by simp, z⟩
    · rcases backS_some h with ⟨h1, h2⟩ | ⟨h1, h2⟩
      · exact .inl ⟨by simp [h1], h2⟩
      · exact .inr ⟨by simp [ne, h1], h2⟩

/-! ### owned things -/
section
variable (M : Mt) (Z H : Hp)
/-- o stands at v; f: the addresses of its own -/
def RpO : O → V → List Addr → Prop
  | .val d, v, f => f = [] ∧ Rp M Z d v
  | .lst ds, v, f => ∃ a xs, v = .ref a ∧ f = [a] ∧ H a = some (.lst xs) ∧ RpA M Z ds xs
  | .dctK ds, v, f => ∃ a xs, v = .ref a ∧ f = [a] ∧ H a = some (.dK xs) ∧ RpK M Z ds xs
  | .dctT ds, v, f => ∃ a xs, v = .ref a ∧ f = [a] ∧ H a = some (.dT xs) ∧ RpT M Z ds xs
/-- what is looked at: frozen or not -/
def RpW (d : D) (v : V) : Prop := ∃ o f, RpO M Z H o v f ∧ o.frz = d
def RpWs : List D → List V → Prop
  | [], xs => xs = []
  | d :: ds, xs => ∃ v vs, xs = v :: vs ∧ RpW M Z H d v ∧ RpWs ds vs
end
def Own (ρ : Env) (φ : Nat → List Addr) (a : Addr) : Prop := ∃ i o, getS ρ i = some o ∧ a ∈ φ i
structure EOk (M : Mt) (Z H : Hp) (σ : List (Option V)) (ρ : Env) (φ : Nat → List Addr) : Prop where
  sub : Sub Z H
  len : σ.length = ρ.length
  hold : ∀ i o, getS ρ i = some o → ∃ v, σ[i]? = some (some v) ∧ RpO M Z H o v (φ i)
  out : ∀ a, Own ρ φ a → Z a = none
  dis : ∀ i j o u a, getS ρ i = some o → getS ρ j = some u → a ∈ φ i → a ∈ φ j → i = j
/-- a step: P what may be written, R what is owned behind it -/
structure Stp (Z H : Hp) (P : Addr → Prop) (Z' H' : Hp) (R : Addr → Prop) : Prop where
  zz : Sub Z Z'
  ch : ∀ a o, H a = some o → ¬ P a → H' a = some o
  al : ∀ a, H a ≠ none → H' a ≠ none
  zn : ∀ a, Z' a ≠ none → Z a ≠ none ∨ P a ∨ H a = none
  ow : ∀ a, R a → P a ∨ H a = none
section
variable {M : Mt} {Z H Z' H' Z2 H2 : Hp} {σ : List (Option V)} {ρ ρ' : Env} {φ φ' : Nat → List Addr} {P R T : Addr → Prop}
theorem Stp.refl : Stp Z H P Z H P := ⟨.refl _, fun _ _ h _ => h, fun _ h => h, fun _ h => .inl h, fun _ h => .inl h⟩
theorem Stp.trans (a : Stp Z H P Z' H' R) (b : Stp Z' H' R Z2 H2 T) : Stp Z H P Z2 H2 T where
  zz := a.zz.trans b.zz
  ch := fun x o h hp => b.ch x o (a.ch x o h hp) fun r => (a.ow x r).elim hp fun e => by rw [h] at e; cases e
  al := fun x h => b.al x (a.al x h)
  zn := fun x h => by
    rcases b.zn x h with h | h | h
    · exact a.zn x h
    · exact .inr (a.ow x h)
    · refine .inr (.inr ?_)
      by_cases e : H x = none
      · exact e
      · exact absurd h (a.al x e)
  ow := fun x h => by
    rcases b.ow x h with h | h
    · exact a.ow x h
    · refine .inr ?_
      by_cases e : H x = none
      · exact e
      · exact absurd h (a.al x e)
theorem Stp.less (a : Stp Z H P Z' H' R) (h : ∀ x, T x → R x) : Stp Z H P Z' H' T := ⟨a.zz, a.ch, a.al, a.zn, fun x t => a.ow x (h x t)⟩
theorem RpO.alloc {o : O} {v : V} {f : List Addr} (h : RpO M Z H o v f) : ∀ a ∈ f, ∃ u, H a = some u := by
  intro a ha
  cases o with
  | val d => obtain ⟨rfl, _⟩ := h; cases ha
  | lst ds => obtain ⟨b, xs, _, rfl, e, _⟩ := h; simp at ha; subst ha; exact ⟨_, e⟩
  | dctK ds => obtain ⟨b, xs, _, rfl, e, _⟩ := h; simp at ha; subst ha; exact ⟨_, e⟩
  | dctT ds => obtain ⟨b, xs, _, rfl, e, _⟩ := h; simp at ha; subst ha; exact ⟨_, e⟩
/-- an owned thing stands on where its own addresses are left alone -/
theorem RpO.keep {o : O} {v : V} {f : List Addr} (h : RpO M Z H o v f) (s : Sub Z Z') (k : ∀ a ∈ f, ∀ u, H a = some u → H' a = some u) : RpO M Z' H' o v f := by
  cases o with
  | val d => obtain ⟨e, h⟩ := h; exact ⟨e, Rp.mono s _ _ h⟩
  | lst ds => obtain ⟨b, xs, e1, rfl, e, h⟩ := h; exact ⟨b, xs, e1, rfl, k b (by simp) _ e, RpA.mono s _ _ h⟩
  | dctK ds => obtain ⟨b, xs, e1, rfl, e, h⟩ := h; exact ⟨b, xs, e1, rfl, k b (by simp) _ e, RpK.mono s _ _ h⟩
  | dctT ds => obtain ⟨b, xs, e1, rfl, e, h⟩ := h; exact ⟨b, xs, e1, rfl, k b (by simp) _ e, RpT.mono s _ _ h⟩
theorem RpW.keep {d : D} {v : V} (h : RpW M Z H d v) (s : Sub Z Z') (k : ∀ a u, H a = some u → H' a = some u) : RpW M Z' H' d v := by
  obtain ⟨o, f, h, e⟩ := h
  exact ⟨o, f, h.keep s fun a _ u q => k a u q, e⟩
theorem RpW.of {d : D} {v : V} (h : Rp M Z d v) : RpW M Z H d v := ⟨.val d, [], ⟨rfl, h⟩, rfl⟩
/-- .. frozen -/
theorem RpO.freeze {o : O} {v : V} {f : List Addr} (h : RpO M Z H o v f) (s : Sub Z H) (hz : ∀ a ∈ f, Z a = none) :
    ∃ Z', Sub Z Z' ∧ Sub Z' H ∧ Rp M Z' o.frz v ∧ ∀ a, Z' a ≠ none → Z a ≠ none ∨ a ∈ f := by
  cases o with
  | val d => obtain ⟨rfl, h⟩ := h; exact ⟨Z, .refl _, s, h, fun _ z => .inl z⟩
  | lst ds =>
    obtain ⟨b, xs, rfl, rfl, e, h⟩ := h
    have s1 : Sub Z (upd Z b (.lst xs)) := fun c o q => by rw [upd_ne (ne_of_none q (hz b (by simp)))]; exact q
    refine ⟨upd Z b (.lst xs), s1, fun c o q => ?_, ⟨b, xs, rfl, .inl (.inl upd_same), RpA.mono s1 _ _ h⟩, fun c q => ?_⟩
    · by_cases hc : c = b
      · subst hc; rw [upd_same] at q; cases q; exact e
      · rw [upd_ne hc] at q; exact s _ _ q
    · by_cases hc : c = b
      · subst hc; exact .inr (by simp)
      · rw [upd_ne hc] at q; exact .inl q
  | dctK ds =>
    obtain ⟨b, xs, rfl, rfl, e, h⟩ := h
    have s1 : Sub Z (upd Z b (.dK xs)) := fun c o q => by rw [upd_ne (ne_of_none q (hz b (by simp)))]; exact q
    refine ⟨upd Z b (.dK xs), s1, fun c o q => ?_, ⟨b, xs, rfl, upd_same, RpK.mono s1 _ _ h⟩, fun c q => ?_⟩
    · by_cases hc : c = b
      · subst hc; rw [upd_same] at q; cases q; exact e
      · rw [upd_ne hc] at q; exact s _ _ q
    · by_cases hc : c = b
      · subst hc; exact .inr (by simp)
      · rw [upd_ne hc] at q; exact .inl q
  | dctT ds =>
    obtain ⟨b, xs, rfl, rfl, e, h⟩ := h
    have s1 : Sub Z (upd Z b (.dT xs)) := fun c o q => by rw [upd_ne (ne_of_none q (hz b (by simp)))]; exact q
    refine ⟨upd Z b (.dT xs), s1, fun c o q => ?_, ⟨b, xs, rfl, upd_same, RpT.mono s1 _ _ h⟩, fun c q => ?_⟩
    · by_cases hc : c = b
      · subst hc; rw [upd_same] at q; cases q; exact e
      · rw [upd_ne hc] at q; exact s _ _ q
    · by_cases hc : c = b
      · subst hc; exact .inr (by simp)
      · rw [upd_ne hc] at q; exact .inl q
/-- views -/
theorem RpW.lst {ds : List D} {v : V} (h : RpW M Z H (.lst ds) v) (s : Sub Z H) : ∃ a xs, v = .ref a ∧ SqL M.K H a xs ∧ RpA M Z ds xs := by
  obtain ⟨o, f, h, e⟩ := h
  cases o with
  | val d =>
    cases e
    obtain ⟨_, a, xs, e, h1, h2⟩ := h
    exact ⟨a, xs, e, s.sl h1, h2⟩
  | lst ds' =>
    cases e
    obtain ⟨a, xs, e, _, h1, h2⟩ := h
    exact ⟨a, xs, e, .inl (.inl h1), h2⟩
  | dctK _ => cases e
  | dctT _ => cases e
theorem RpW.dctK {ds : List (Key × D)} {v : V} (h : RpW M Z H (.dctK ds) v) (s : Sub Z H) : ∃ a xs, v = .ref a ∧ H a = some (.dK xs) ∧ RpK M Z ds xs := by
  obtain ⟨o, f, h, e⟩ := h
  cases o with
  | val d =>
    cases e
    obtain ⟨_, a, xs, e, h1, h2⟩ := h
    exact ⟨a, xs, e, s _ _ h1, h2⟩
  | lst ds' => cases e
  | dctK _ =>
    cases e
    obtain ⟨a, xs, e, _, h1, h2⟩ := h
    exact ⟨a, xs, e, h1, h2⟩
  | dctT _ => cases e
theorem RpW.dctT {ds : List (List Key × D)} {v : V} (h : RpW M Z H (.dctT ds) v) (s : Sub Z H) : ∃ a xs, v = .ref a ∧ H a = some (.dT xs) ∧ RpT M Z ds xs := by
  obtain ⟨o, f, h, e⟩ := h
  cases o with
  | val d =>
    cases e
    obtain ⟨_, a, xs, e, h1, h2⟩ := h
    exact ⟨a, xs, e, s _ _ h1, h2⟩
  | lst ds' => cases e
  | dctK _ => cases e
  | dctT _ =>
    cases e
    obtain ⟨a, xs, e, _, h1, h2⟩ := h
    exact ⟨a, xs, e, h1, h2⟩
/-- what is no list and no dict is frozen -/
theorem RpW.rp {d : D} {v : V} (h : RpW M Z H d v) (hd : ∀ o : O, o.frz = d → ∃ d, o = .val d) : Rp M Z d v := by
  obtain ⟨o, f, h, e⟩ := h
  obtain ⟨d', rfl⟩ := hd o e
  cases e
  exact h.2
end
end EV

set_option maxHeartbeats 4000000
namespace EV
open PyProof.Rows PySem L2 PySem.Spec
theorem tuple_mul1 (l : Addr) (items : Array Value) (n : Nat) (sl : Array (Option Value)) (dd : Option Addr) (u : Tok) :
    Meets (Builtin.«tuple.__mul__» ⟨[.ref l, .int 1 u], []⟩) (fun _ R s => s.heap.get? l = some { cls := .type "tuple", dict := dd, data := .seq items n, slots := sl } ∧
      R (.ok (.ret (Value.ref l))) s) :=
  .of_wp fun prog w A R s h => by
    obtain ⟨hp, g, d, tk, os⟩ := s
    obtain ⟨hl, h⟩ := h
    have f1 := AutoSeq1.idx_int
    have c0 : (decide ((1 : Int) < -(2 ^ 63)) || decide ((1 : Int) ≥ 2 ^ 63)) = false := by decide
    have c1 : (items.isEmpty || (1 : Int) == 1) = true := by simp
    wp_walk using wpAny_loadPart' hl
    repeat (first
      | (refine wpAny_ite_false (decide_eq_false (by rw [c0]; exact Bool.false_ne_true)) ?_; wp_walk using wpAny_loadPart' hl)
      | (refine wpAny_ite_true (decide_eq_true (by rw [c1])) ?_; wp_walk using wpAny_loadPart' hl))
    all_goals first | exact ⟨_, rfl, h⟩ | skip
theorem tuple_mul0 (l : Addr) (items : Array Value) (n : Nat) (sl : Array (Option Value)) (dd : Option Addr) (u : Tok) (hi : items.isEmpty = false) :
    Meets (Builtin.«tuple.__mul__» ⟨[.ref l, .int 0 u], []⟩) (fun _ R s => s.heap.get? l = some { cls := .type "tuple", dict := dd, data := .seq items n, slots := sl } ∧
      R (.ok (.ret (Value.ref s.heap.objs.size))) { s with heap := s.heap.push { cls := Value.type "tuple", data := Data.seq #[] }, toks := s.toks }) :=
  .of_wp fun prog w A R s h => by
    obtain ⟨hp, g, d, tk, os⟩ := s
    obtain ⟨hl, h⟩ := h
    have f1 := AutoSeq1.idx_int
    have c0 : (decide ((0 : Int) < -(2 ^ 63)) || decide ((0 : Int) ≥ 2 ^ 63)) = false := by decide
    have c1 : (items.isEmpty || (0 : Int) == 1) = false := by rw [hi]; rfl
    have c2 : (decide ((0 : Int) ≤ 0) || items.isEmpty) = true := by rw [hi]; rfl
    wp_walk using wpAny_loadPart' hl
    repeat (first
      | (refine wpAny_ite_false (decide_eq_false (by rw [c0]; exact Bool.false_ne_true)) ?_; wp_walk using wpAny_loadPart' hl)
      | (refine wpAny_ite_false (decide_eq_false (by rw [c1]; exact Bool.false_ne_true)) ?_; wp_walk using wpAny_loadPart' hl)
      | (refine wpAny_ite_true (decide_eq_true (by rw [c2])) ?_; wp_walk using wpAny_loadPart' hl))
    all_goals first | exact ⟨_, rfl, h⟩ | skip
def rRep01 (K : PySem.W.Frag) : R2 := fun x y H Q => ∃ l k xs, x = .ref l ∧ y = .int k ∧ SqT K H l xs ∧ xs ≠ [] ∧ ((k = 1 ∧ Q (.ref l) H) ∨ (k = 0 ∧ ∀ p, H p = none → Q (.ref p) (upd H p (.tup []))))
section
variable {X : Cx}
theorem op_rep01 : OpR X (binaryOp .Mult) (rRep01 X.K) := by
  intro pins s σ H x y v u Q I rx ry h
  obtain ⟨l, k, xs, rfl, rfl, hT, hne, hk⟩ := h
  cases rx
  obtain ⟨t, rfl⟩ := ry
  obtain ⟨its, r, ⟨⟨cls, dd, data, sl⟩, ho, hc, n, hd⟩, hs⟩ := I.tuple hT
  simp only at hc hd
  subst hc hd
  have hle : its.length = xs.length := r.length.symm
  have hn : its ≠ [] := fun e => hne (by
    rw [e] at hle
    exact List.eq_nil_of_length_eq_zero hle.symm)
  have hi : its.toArray.isEmpty = false := by
    cases its with
    | nil => exact absurd rfl hn
    | cons a b => rfl
  rcases hk with ⟨rfl, q⟩ | ⟨rfl, q⟩
  · refine wpAny_binaryOp_repeat_ref (T := "tuple") (U := "int") (by decide) ⟨_, ho, rfl⟩ (fun s' => typeIs_int s' 1 t) noFill_tuple_mul F.fills_int_mul F.slot_int_rmul repeat_tuple F.slot_int_index.lookup
      (call_meets F.slot_int_rmul (typeIs_int s 1 t) F.entry_int_rmul (F.args_int_rmul_2 _ _) (int_rmul_tuple 1 t l its.toArray n dd sl)
        ⟨ho, rfl, ⟨_, ho, rfl⟩, call_meets F.slot_tuple_mul ⟨_, ho, rfl⟩ F.entry_tuple_mul (F.args_tuple_mul_2 _ _) (tuple_mul1 l its.toArray n sl dd t) ⟨ho, ?_⟩⟩)
    exact ⟨.ref l, H, I, rfl, q⟩
  · refine wpAny_binaryOp_repeat_ref (T := "tuple") (U := "int") (by decide) ⟨_, ho, rfl⟩ (fun s' => typeIs_int s' 0 t) noFill_tuple_mul F.fills_int_mul F.slot_int_rmul repeat_tuple F.slot_int_index.lookup
      (call_meets F.slot_int_rmul (typeIs_int s 0 t) F.entry_int_rmul (F.args_int_rmul_2 _ _) (int_rmul_tuple 0 t l its.toArray n dd sl)
        ⟨ho, rfl, ⟨_, ho, rfl⟩, call_meets F.slot_tuple_mul ⟨_, ho, rfl⟩ F.entry_tuple_mul (F.args_tuple_mul_2 _ _) (tuple_mul0 l its.toArray n sl dd t hi) ⟨ho, ?_⟩⟩)
    refine ⟨.ref s.heap.objs.size, _, I.laid (t' := s.toks) (o := .tup []) (fun b ob q => Heap.get?_push_of_some _ q) (Nat.le_refl _) ?_, rfl, q _ (I.hok.fresh (Nat.le_refl _))⟩
    exact ⟨by decide, [], .nil, IsTup.new _ _⟩
end
end EV

namespace EV
open PyProof.Rows PySem L2 PySem.Spec
/-! enumerate(tuple) -/
theorem draws_tup {prog : Program} {w : World} {A : Around} (hh : A.handled = none) (it l : Addr) (hne : l ≠ it) (items : Array Value) :
    Draws prog w A it [it, l] items.size (fun i v => items[i]? = some v) (fun i h => h.IsTupleIter it l i ∧ h.IsTuple l items) where
  live := fun i h ⟨⟨o, ho, _⟩, _⟩ => ⟨o, ho⟩
  frame := fun i h h' ⟨a, b⟩ hk => ⟨a.at fun o e => hk it (List.mem_cons_self ..) o e, b.at fun o e => hk l (List.mem_cons_of_mem _ (List.mem_cons_self ..)) o e⟩
  item := fun i s Q E hi ⟨a, b⟩ hQ => by
    have hx : items[i]? = some items[i] := Array.getElem?_eq_getElem hi
    exact RZ.nextOf_tuple_item a b hx fun h' a' sb => hQ _ h' s.toks hx ⟨a', b.extBut sb.extBut hne⟩ sb
  done := fun s Q E ⟨a, b⟩ hE => RZ.nextOf_tuple_end hh a b (Array.getElem?_eq_none (Nat.le_refl _)) hE
section
open AutoSeq1 (wpAny_loadPart')
theorem enum_newT (l : Addr) (items : Array Value) (n : Nat) (dct : Option Addr) (sl : Array (Option Value)) :
    Meets (Builtin.«enumerate.__new__» ⟨[.type "enumerate", .ref l], []⟩) (fun _ R s => s.heap.get? l = some { cls := .type "tuple", dict := dct, data := .seq items n, slots := sl } ∧
      R (.ok (.ret (.ref (s.heap.push { cls := .type "tuple_iterator", data := .fields #[.ref l, .int 0 0] }).objs.size)))
        { s with heap := (s.heap.push { cls := .type "tuple_iterator", data := .fields #[.ref l, .int 0 0] }).push { cls := .type "enumerate", data := .fields #[.none, .bool false, .ref s.heap.objs.size, rawInt 0, .none, .none] } }) := .of_wp (by
    intro prog w A R ⟨hp, g, d, tk, os⟩ ⟨hl, h⟩
    have sb := sub_enumerate
    have tp : Heap.IsTuple (Shared.heap ⟨hp, g, d, tk, os⟩) l items := ⟨_, hl, rfl, n, rfl⟩
    wp_walk using wpAny_loadPart' hl
    refine wpAny_stack_any fun st => wpAny_pure ?_
    split
    case' h_1 => rename_i c _ _ _ _ _; cases (c == Value.type "enumerate")
    all_goals (wp_walk using wpAny_loadPart' hl, wpAny_pyIter_tuple tp; exact ⟨_, rfl, h⟩))
end
section
variable {prog : Program} {w : World} {A : Around} {E : Value → Shared → Prop} {s : Shared}
theorem call_enumT {l : Addr} {items : Array Value} {Q : Value → Shared → Prop} (ht : s.heap.IsTuple l items)
    (h : ∀ h', IsEnum h' (s.heap.objs.size + 1) s.heap.objs.size 0 .none → h'.IsTupleIter s.heap.objs.size l 0 → (∀ b o, s.heap.get? b = some o → h'.get? b = some o) → Q (.ref (s.heap.objs.size + 1)) { s with heap := h' }) :
    wpAny (model prog w) A (call (.type "enumerate") [.ref l]) Q E s := by
  obtain ⟨⟨c, dct, dt, sl⟩, hl, hc, n, hd⟩ := ht
  cases (show c = .type "tuple" from hc)
  cases (show dt = .seq items n from hd)
  have z1 : (s.heap.push { cls := .type "tuple_iterator", data := .fields #[.ref l, .int 0 0] }).objs.size = s.heap.objs.size + 1 := Heap.size_push ..
  have he : IsEnum ((s.heap.push { cls := .type "tuple_iterator", data := .fields #[.ref l, .int 0 0] }).push { cls := .type "enumerate", data := .fields #[.none, .bool false, .ref s.heap.objs.size, rawInt 0, .none, .none] }) (s.heap.objs.size + 1) s.heap.objs.size 0 .none := by
    show Heap.get? _ _ = _
    rw [← z1]; exact Heap.get?_push_size _ rfl
  refine callType_new F.called_enumerate (by decide) (F.typeCall_enumerate_1 _) (F.newCall_enumerate_1 _) (fun obj => F.args_object_init_2 obj _) F.entry_enumerate_new (enum_newT l items n dct sl) ⟨hl, ?_⟩
  rw [z1]
  exact ⟨⟨_, he, rfl⟩, h _ he ⟨_, Heap.get?_push_of_some _ (Heap.get?_push_size _ rfl), rfl, rfl⟩ fun b o x => Heap.get?_push_of_some _ (Heap.get?_push_of_some _ x)⟩
end
/-- the tuple at a, each item in a new pair -/
def IteT (K : PySem.W.Frag) (a : Addr) : It :=
  ⟨fun i H => ∃ (xs : List V) (x : V), SqT K H a xs ∧ xs[i]? = some x, fun i H v H' => ∃ T x, v = .ref T ∧ H T = none ∧ H' = upd H T (.tup [.int (i : Nat), x]) ∧ ∀ xs, SqT K H a xs → xs[i]? = some x, fun i H => ∃ xs : List V, SqT K H a xs ∧ xs.length ≤ i⟩
theorem turn_enumT {P : Program} {w : World} {K : PySem.W.Frag} {elts : List Expr} {kk : Nat} {tpos : Pos} (a e it : Addr) :
    Turn P w K (.Tuple elts kk tpos) (IteT K a) [e, it] e (fun i h => (∃ old, IsEnum h e it ((i : Nat) : Int) old) ∧ h.IsTupleIter it a i ∧ e ≠ it ∧ a ≠ it ∧ a ≠ e) where
  mem := List.mem_cons_self ..
  obj := by
    rintro i h ⟨⟨old, he⟩, ⟨o, ho, hc, hd⟩, _⟩ b hb
    rcases List.mem_cons.mp hb with rfl | hb
    · exact ⟨_, he, fun v q => nomatch q⟩
    · cases List.mem_singleton.mp hb
      exact ⟨o, ho, fun v q => by rw [hd] at q; cases q⟩
  keep := fun i h h' ⟨⟨old, he⟩, hi, n1, n2, n3⟩ k => ⟨⟨old, k e (List.mem_cons_self ..) _ he⟩, hi.at fun o q => k it (List.mem_cons_of_mem _ (List.mem_cons_self ..)) o q, n1, n2, n3⟩
  item := by
    rintro X rfl rfl rfl hc i pins s σ H E I hf ⟨⟨old, he⟩, hit, n1, n2, n3⟩ ⟨xs, x, hq, hx⟩
    obtain ⟨its, rv, p, hz⟩ := I.tuple hq
    obtain ⟨u, hu, ru⟩ := rv.get hx
    have hel : e < s.heap.objs.size := Heap.lt_size he
    have hil : it < s.heap.objs.size := by obtain ⟨_, q, _⟩ := hit; exact Heap.lt_size q
    have hi : i < its.toArray.size := by
      have := (List.getElem?_eq_some_iff.mp hu).1
      simpa using this
    have pt : s.heap.IsTuple a its.toArray := p
    refine wpAny_pyNext_enum_itemD (draws_tup (A := X.A.in1) (I.ok.hd hc) it a n2 its.toArray) he ⟨hit, pt⟩ hi n1 (by simp; exact ⟨n1, fun z => n3 z.symm⟩) fun y h' tk hy ho ⟨hit', _⟩ hT hsz hk => ?_
    have ey : y = u := by
      have : its.toArray[i]? = some u := by simpa using hu
      exact Option.some.inj (hy.symm.trans this)
    subst ey
    refine ⟨_, rfl, wpAny_letOwnedTupleGo_enum (s := { s with heap := h', toks := tk + 1 }) ho fun h'' he' sb => ?_⟩
    have hT2 : h''.get? s.heap.objs.size = some { cls := .type "tuple", data := .seq #[.int i tk, y] } := (sb.2 _ (Nat.ne_of_gt hel)).trans hT
    have I1 : Inv X pins σ (upd H s.heap.objs.size (.tup [.int (i : Nat), x])) { s with heap := h'', toks := tk + 1 } :=
      I.turnedNew (ch := [e, it]) (fun b ob hb q => by
        simp only [List.mem_cons, List.not_mem_nil, or_false, not_or] at hb
        exact (sb.2 b hb.1).trans (hk b ob hb.1 hb.2 q)) hf (Nat.le_refl _) (show ObjOk X.prog X.w _ h'' _ (.tup [.int (i : Nat), x]) from ⟨by show 2 ≤ sizeLine; decide, [.int i tk, y], .cons ⟨_, rfl⟩ (.cons ru .nil), ⟨_, hT2, rfl, _, rfl⟩⟩)
    refine ⟨.ref s.heap.objs.size, _, I1, rfl, ⟨_, x, rfl, I.hok.fresh (Nat.le_refl _), rfl, fun ys hy => by rw [I.tuple_inj hy hq]; exact hx⟩, ⟨⟨y, by rw [show ((i + 1 : Nat) : Int) = (i : Int) + 1 by omega]; exact he'⟩, hit'.at fun o q => (sb.2 it (Ne.symm n1)).trans q, n1, n2, n3⟩, fun b hb => ?_⟩
    have hlt : b < s.heap.objs.size := by
      rcases List.mem_cons.mp hb with rfl | hb
      · exact hel
      · cases List.mem_singleton.mp hb; exact hil
    rw [upd_ne (Nat.ne_of_lt hlt)]
    exact (hf b hb).1
  done := by
    rintro X rfl rfl rfl hc i pins s σ H E I hf ⟨⟨old, he⟩, hit, n1, n2, n3⟩ ⟨xs, hq, hx⟩
    obtain ⟨its, rv, p, hz⟩ := I.tuple hq
    have hl := rv.length
    have pt : s.heap.IsTuple a its.toArray := p
    have hn : its.toArray[i]? = none := Array.getElem?_eq_none (by simp; omega)
    obtain ⟨f0, f1, f2, f3, f4, f5⟩ := hf it (List.mem_cons_of_mem _ (List.mem_cons_self ..))
    have hT : s.TypeIs (.ref e) "enumerate" := ⟨_, he, rfl⟩
    have hD : Draws X.prog X.w X.A.in1 it [it, a] i (fun _ _ => True) (fun j h => j = i ∧ h.IsTupleIter it a i ∧ h.IsTuple a its.toArray) :=
      { live := fun j h ⟨_, ⟨o, ho, _⟩, _⟩ => ⟨o, ho⟩
        frame := fun j h h' ⟨z, x, y⟩ hk => ⟨z, x.at fun o e => hk it (List.mem_cons_self ..) o e, y.at fun o e => hk a (List.mem_cons_of_mem _ (List.mem_cons_self ..)) o e⟩
        item := fun j s Q E hj ⟨z, _⟩ => absurd hj (by omega)
        done := fun s Q E ⟨_, x, y⟩ hE => RZ.nextOf_tuple_end (I.ok.hd hc) x y hn hE }
    exact wpAny_pyNext_enum_endD hD he ⟨rfl, hit, pt⟩ fun h' eb => ⟨rfl, I.turned (t' := s.toks) (fun b o hb q => eb b o hb q) f0 f1 f3 f4 f5⟩
  self := fun A i s Q E ⟨⟨_, he⟩, _⟩ h => wpAny_pyIter_enum he h
def iEnumA (K : PySem.W.Frag) (ta : TA) : TI := fun σ H R => ta σ H fun vs H1 => ∃ a xs, vs = [.ref a] ∧ ((SqL K H1 a xs ∧ R (Ite K a) H1) ∨ (SqT K H1 a xs ∧ R (IteT K a) H1))
theorem pi_enumA {X : Cx} {e : Expr} {ta : TA} {p pos tpos : Pos} {elts : List Expr} {kk : Nat} (hg : Gl X "enumerate") (hm : X.mg "enumerate" = none) (ha : PA X [e] ta) (hs : starEach [e] X.env = [(false, eval e X.env)]) :
    PI X (.Tuple elts kk tpos) (.Call (.Name "enumerate" p) [e] [] pos) (iEnumA X.K ta) := ⟨by
  intro pins s σ H R I h
  refine Call_ (ld_blt I hg hm boot_enumerate (PyProof.Rows.callWith_type1 (thn (ha.run pos pins s σ H _ I h) fun us s1 ⟨vs, H1, I1, r1, a, xs, ex, q1⟩ => ?_) hs rfl))
  subst ex
  obtain ⟨u, eu, rx⟩ := vals1 r1
  subst eu
  cases rx
  have fp : ∀ b, b ∈ [s1.heap.objs.size + 1, s1.heap.objs.size] → FpOk X pins H1 b := fun b hb => by
    have hle : s1.heap.objs.size ≤ b := by
      rcases List.mem_cons.mp hb with rfl | hb
      · exact Nat.le_add_right _ _
      · cases List.mem_singleton.mp hb; exact Nat.le_refl _
    exact I1.fpOk hle (I1.hok.fresh hle)
  rcases q1 with ⟨hq, q⟩ | ⟨hq, q⟩
  · obtain ⟨its, rv, pl, hz⟩ := I1.list hq
    exact call_enumerate_list pl.isList fun h' he hit hsz hk => wpAny_pyIter_enum he ⟨s1.heap.objs.size + 1, [s1.heap.objs.size + 1, s1.heap.objs.size], _, _, H1, rfl, I1.kept (t' := s1.toks) hk, turn_enum a (s1.heap.objs.size + 1) s1.heap.objs.size, ⟨⟨.none, he⟩, hit, Nat.succ_ne_self _⟩, fp, q⟩
  · obtain ⟨its, rv, pl, hz⟩ := I1.tuple hq
    obtain ⟨o, ho, _⟩ := id pl
    have ha : a < s1.heap.objs.size := Heap.lt_size ho
    exact call_enumT (show s1.heap.IsTuple a its.toArray from pl) fun h' he hit hk => wpAny_pyIter_enum he ⟨s1.heap.objs.size + 1, [s1.heap.objs.size + 1, s1.heap.objs.size], _, _, H1, rfl, I1.kept (t' := s1.toks) hk, turn_enumT a (s1.heap.objs.size + 1) s1.heap.objs.size, ⟨⟨.none, he⟩, hit, Nat.succ_ne_self _, Nat.ne_of_lt ha, Nat.ne_of_lt (Nat.lt_succ_of_lt ha)⟩, fp, q⟩⟩
end EV

namespace EV
open PyProof.Rows PySem L2 PySem.Spec
/-! dicts with tuples as keys: looks by any tuple that can be read -/
section
variable {X : Cx} {pins : List (Addr × Obj)} {σ : L2.St} {H : Hp} {s : Shared} {a b : Addr} {kvs : List (List Key × V)} {k : List Key} {v d : V} {u r : Value} {A : Around} {E : Value → Shared → Prop}
theorem key_sq (I : Inv X pins σ H s) (h : SqT X.K H b (k.map kV)) : (tupleKind (mixKind X.prog X.w)).is s.heap k b := by
  obtain ⟨its, r, ⟨o, h1, h2, n, h3⟩, _⟩ := I.tuple h
  exact ⟨o, its.toArray, n, h1, h2, h3, by simpa using items_are r⟩
theorem dT_get {Q : Value → Shared → Prop} (hu : A.units + 1 < cLine) (I : Inv X pins σ H s) (e : Rd H a (.dT kvs)) (hk : SqT X.K H b (k.map kV)) (l : some v = valV kvs k) (h : ∀ w' s', Inv X pins σ H s' → RelV v w' → Q w' s') :
    wpAny (model X.prog X.w) A (getItem (.ref a) (.ref b)) Q E s := by
  obtain ⟨z, hd, xs, rel, dd⟩ := dt_rd I.hok e
  obtain ⟨w', hw, rw'⟩ := RelO.some_of (v := v) (o := (atKey xs k).map (·.2)) (by rw [l]; exact rel.val k)
  obtain ⟨p, hp, hp2⟩ := Option.map_eq_some_iff.mp hw
  refine wpAny_getItem_heap (tupleKind_room_in1 hu) (key_sq I hk) dd hp (by rw [hp2]; exact h w' _ (I.tok _) rw')
theorem dT_in {Q : Value → Shared → Prop} (hu : A.units + 1 < cLine) (I : Inv X pins σ H s) (e : Rd H a (.dT kvs)) (hk : SqT X.K H b (k.map kV)) (h : ∀ s', Inv X pins σ H s' → Q (.bool (valV kvs k).isSome) s') :
    wpAny (model X.prog X.w) A (compareOp .In (.ref b) (.ref a)) Q E s := by
  obtain ⟨z, hd, xs, rel, dd⟩ := dt_rd I.hok e
  refine wpAny_in_heap (tupleKind_room_in1 hu) (key_sq I hk) hd dd ?_
  have q := (rel.val k).isSome_eq; rw [Option.isSome_map] at q; rw [← q]
  exact h _ (I.tok _)
theorem dT_notIn {Q : Value → Shared → Prop} (hu : A.units + 1 < cLine) (I : Inv X pins σ H s) (e : Rd H a (.dT kvs)) (hk : SqT X.K H b (k.map kV)) (h : ∀ s', Inv X pins σ H s' → Q (.bool (!(valV kvs k).isSome)) s') :
    wpAny (model X.prog X.w) A (compareOp .NotIn (.ref b) (.ref a)) Q E s := by
  obtain ⟨z, hd, xs, rel, dd⟩ := dt_rd I.hok e
  refine wpAny_notIn_heap (tupleKind_room_in1 hu) (key_sq I hk) hd dd ?_
  have q := (rel.val k).isSome_eq; rw [Option.isSome_map] at q; rw [← q]
  exact h _ (I.tok _)
theorem dT_get1 {Q : Value → Shared → Prop} (hu : A.units + 1 < cLine) (I : Inv X pins σ H s) (e : Rd H a (.dT kvs)) (hk : SqT X.K H b (k.map kV)) (h : ∀ w' s', Inv X pins σ H s' → RelV ((valV kvs k).getD .non) w' → Q w' s') :
    wpAny (model X.prog X.w) A (call (.builtin "dict.get") [.ref a, .ref b]) Q E s := by
  obtain ⟨z, hd, xs, rel, dd⟩ := dt_rd I.hok e
  exact call_meetsIn PySem.F.slot_dict_get dd.typeIs PySem.F.entry_dict_get (PySem.F.args_dict_get_2 _ _) (meetsH_dict_get (tupleKind (mixKind X.prog X.w)) a b hd)
    ⟨tupleKind_room_in1 hu, k, xs, key_sq I hk, dd, h _ _ (I.tok _) ((rel.val k).getD rfl)⟩
theorem dT_get2 {Q : Value → Shared → Prop} (hu : A.units + 1 < cLine) (I : Inv X pins σ H s) (e : Rd H a (.dT kvs)) (hk : SqT X.K H b (k.map kV)) (rd : RelV d r) (h : ∀ w' s', Inv X pins σ H s' → RelV ((valV kvs k).getD d) w' → Q w' s') :
    wpAny (model X.prog X.w) A (call (.builtin "dict.get") [.ref a, .ref b, r]) Q E s := by
  obtain ⟨z, hd, xs, rel, dd⟩ := dt_rd I.hok e
  exact call_meetsIn PySem.F.slot_dict_get dd.typeIs PySem.F.entry_dict_get (PySem.F.args_dict_get_3 _ _ _) (meetsH_dict_get_default (tupleKind (mixKind X.prog X.w)) a b hd r)
    ⟨tupleKind_room_in1 hu, k, xs, key_sq I hk, dd, h _ _ (I.tok _) ((rel.val k).getD rd)⟩
/-- what the dict at a holds at y, by any key that can be read -/
def DG (K : PySem.W.Frag) (H : Hp) (a : Addr) (y : V) (r : Option V) : Prop := DGet H a y r ∨ ∃ kvs k b, Rd H a (.dT kvs) ∧ y = .ref b ∧ SqT K H b (k.map kV) ∧ r = valV kvs k
variable {y : V} {o : Option V}
theorem dg_type (I : Inv X pins σ H s) (g : DG X.K H a y o) : s.TypeIs (.ref a) "dict" := by
  rcases g with g | ⟨kvs, k, b, e, _, _, _⟩
  · exact dict_typeIs I g
  · obtain ⟨_, _, xs, _, dd⟩ := dt_rd I.hok e; exact dd.typeIs
theorem dg_get {Q : Value → Shared → Prop} (hu : A.units + 1 < cLine) (I : Inv X pins σ H s) (g : DG X.K H a y (some v)) (ry : RelV y u) (h : ∀ w' s', Inv X pins σ H s' → RelV v w' → Q w' s') :
    wpAny (model X.prog X.w) A (getItem (.ref a) u) Q E s := by
  rcases g with g | ⟨kvs, k, b, e, rfl, hk, l⟩
  · exact d_getItem hu I g ry h
  · cases (show u = Value.ref b from ry); exact dT_get hu I e hk l h
theorem dg_in {Q : Value → Shared → Prop} (hu : A.units + 1 < cLine) (I : Inv X pins σ H s) (g : DG X.K H a y o) (ry : RelV y u) (h : ∀ s', Inv X pins σ H s' → Q (.bool o.isSome) s') :
    wpAny (model X.prog X.w) A (compareOp .In u (.ref a)) Q E s := by
  rcases g with g | ⟨kvs, k, b, e, rfl, hk, rfl⟩
  · exact d_in hu I g ry h
  · cases (show u = Value.ref b from ry); exact dT_in hu I e hk h
theorem dg_notIn {Q : Value → Shared → Prop} (hu : A.units + 1 < cLine) (I : Inv X pins σ H s) (g : DG X.K H a y o) (ry : RelV y u) (h : ∀ s', Inv X pins σ H s' → Q (.bool (!o.isSome)) s') :
    wpAny (model X.prog X.w) A (compareOp .NotIn u (.ref a)) Q E s := by
  rcases g with g | ⟨kvs, k, b, e, rfl, hk, rfl⟩
  · exact d_notIn hu I g ry h
  · cases (show u = Value.ref b from ry); exact dT_notIn hu I e hk h
theorem dg_get1 {Q : Value → Shared → Prop} (hu : A.units + 1 < cLine) (I : Inv X pins σ H s) (g : DG X.K H a y o) (ry : RelV y u) (h : ∀ w' s', Inv X pins σ H s' → RelV (o.getD .non) w' → Q w' s') :
    wpAny (model X.prog X.w) A (call (.builtin "dict.get") [.ref a, u]) Q E s := by
  rcases g with g | ⟨kvs, k, b, e, rfl, hk, rfl⟩
  · exact d_get1 hu I g ry h
  · cases (show u = Value.ref b from ry); exact dT_get1 hu I e hk h
theorem dg_get2 {Q : Value → Shared → Prop} (hu : A.units + 1 < cLine) (I : Inv X pins σ H s) (g : DG X.K H a y o) (ry : RelV y u) (rd : RelV d r) (h : ∀ w' s', Inv X pins σ H s' → RelV (o.getD d) w' → Q w' s') :
    wpAny (model X.prog X.w) A (call (.builtin "dict.get") [.ref a, u, r]) Q E s := by
  rcases g with g | ⟨kvs, k, b, e, rfl, hk, rfl⟩
  · exact d_get2 hu I g ry rd h
  · cases (show u = Value.ref b from ry); exact dT_get2 hu I e hk rd h
end
section
variable {X : Cx} {o e f : Expr} {apos cpos : Pos} {td ty tx : TE}
theorem pe_dgS1 (hu : X.A.units + 1 < cLine) (ho : PE X o td) (he : PE X e ty) (m : M1 X o "get" apos e cpos) :
    PE X (.Call (.Attribute o "get" apos) [e] [] cpos) (fun σ H Q => td σ H fun x H1 => ∃ a, x = .ref a ∧ IsD H1 a ∧ ty σ H1 fun y H2 => ∃ o, DG X.K H2 a y o ∧ Q (o.getD .non) H2) := by
  refine ⟨fun pins s σ H Q I h => wpAny_Call_method m.base m.few m.line PySem.F.plainAttrs_dict PySem.F.slot_dict_get PySem.F.type_dict_get (thn (ho.run pins s σ H _ I h) fun u s1 ⟨x, H1, I1, rx, a, ex, d, q1⟩ => ?_)⟩
  subst ex
  obtain rfl : u = Value.ref a := rx
  obtain ⟨t1, t2, _⟩ := isD_at I1 d
  refine ⟨t1, t2, by rw [m.trees]; exact Calls.callWith_builtin rfl (Calls.evalArgs_plain (Calls.spliced_cons (thn (he.run pins s1 σ H1 _ I1 q1) fun iv s2 ⟨y, H2, I2, ry, ov, g, q2⟩ => Calls.spliced_nil (dg_get1 hu I2 g ry fun w' s3 I3 rw' => ⟨_, H2, I3, rw', q2⟩))))⟩
theorem pe_dgS2 (hu : X.A.units + 1 < cLine) (ho : PE X o td) (he : PE X e ty) (hf : PE X f tx) (m : M2 X o "get" apos e f cpos) :
    PE X (.Call (.Attribute o "get" apos) [e, f] [] cpos) (fun σ H Q => td σ H fun x H1 => ∃ a, x = .ref a ∧ IsD H1 a ∧ ty σ H1 fun y H2 => tx σ H2 fun z H3 => ∃ o, DG X.K H3 a y o ∧ Q (o.getD z) H3) := by
  refine ⟨fun pins s σ H Q I h => wpAny_Call_method m.base m.few m.line PySem.F.plainAttrs_dict PySem.F.slot_dict_get PySem.F.type_dict_get (thn (ho.run pins s σ H _ I h) fun u s1 ⟨x, H1, I1, rx, a, ex, d, q1⟩ => ?_)⟩
  subst ex
  obtain rfl : u = Value.ref a := rx
  obtain ⟨t1, t2, _⟩ := isD_at I1 d
  refine ⟨t1, t2, by rw [m.trees]; exact Calls.callWith_builtin rfl (Calls.evalArgs_plain (Calls.spliced_cons (thn (he.run pins s1 σ H1 _ I1 q1) fun iv s2 ⟨y, H2, I2, ry, q2⟩ => Calls.spliced_cons (thn (hf.run pins s2 σ H2 _ I2 q2) fun fv s3 ⟨z, H3, I3, rz, ov, g, q3⟩ => Calls.spliced_nil (dg_get2 hu I3 g ry rz fun w' s4 I4 rw' => ⟨_, H3, I4, rw', q3⟩)))))⟩
end
end EV

namespace EV
open PyProof.Rows PySem L2 PySem.Spec
/-! dict(list of pairs) whose keys are tuples -/
section
variable {prog : Program} {w : World} {A : Around} {E : Value → Shared → Prop}
abbrev TK (prog : Program) (w : World) := tupleKind (mixKind prog w)
theorem isT_keep {h h' : Heap} {ks : List Key} {b : Addr} (k : (TK prog w).is h ks b) (e : ∀ o, h.get? b = some o → h'.get? b = some o) : (TK prog w).is h' ks b := by
  obtain ⟨o, its, n, h1, h2, h3, h4⟩ := k
  exact ⟨o, its, n, e o h1, h2, h3, h4⟩
theorem dictH_keep {h h' : Heap} {d : Addr} {xs : List (List Key × Addr × Value)} (k : h.DictOfH (TK prog w) d xs) (e : ∀ o, h.get? d = some o → h'.get? d = some o) (e2 : ∀ x ∈ xs, ∀ o, h.get? x.2.1 = some o → h'.get? x.2.1 = some o) : h'.DictOfH (TK prog w) d xs := by
  obtain ⟨o, es, ep, h1, h2, h3, h4, h5, h6⟩ := k
  exact ⟨o, es, ep, e o h1, h2, h3, h4, fun x hx => isT_keep (h5 x hx) (e2 x hx), h6⟩
def mergeH (acc more : List (List Key × Addr × Value)) : List (List Key × Addr × Value) := more.foldl (fun acc x => storedH acc x.1 x.2.1 x.2.2) acc
theorem storedH_len (acc : List (List Key × Addr × Value)) (k : List Key) (a : Addr) (v : Value) : (storedH acc k a v).length ≤ acc.length + 1 := by
  unfold storedH; split <;> simp
theorem storedH_addr {acc : List (List Key × Addr × Value)} {k : List Key} {a : Addr} {v : Value} {x : List Key × Addr × Value} (h : x ∈ storedH acc k a v) : x.2.1 = a ∨ ∃ y ∈ acc, y.2.1 = x.2.1 := by
  unfold storedH at h
  split at h
  · obtain ⟨y, h1, h2⟩ := List.mem_map.mp h
    refine .inr ⟨y, h1, ?_⟩
    subst h2
    unfold putAt
    split <;> rfl
  · rcases List.mem_append.mp h with h | h
    · exact .inr ⟨x, h, rfl⟩
    · simp at h; subst h; exact .inl rfl
/-- the walk over the pairs -/
theorem upd_loopT {R : Result → Shared → Prop} {S I l : Addr} {items : Array Value} {res : Value} (hu : A.units + 2 < cLine) (hh : A.handled = none) (hlI : l ≠ I) (hSI : S ≠ I) (hSl : S ≠ l) :
    ∀ (rest : List (List Key × Addr × Value)) (i : Nat) (acc : List (List Key × Addr × Value)) (ix : Int) (t : Tok) (s : Shared), items.size = i + rest.length → acc.length + rest.length ≤ sizeLine →
      (∀ x ∈ acc, x.2.1 ≠ S ∧ x.2.1 ≠ I) →
      (∀ (j : Nat) (q : List Key × Addr × Value), rest[j]? = some q → ∃ (b : Addr), items[i + j]? = some (.ref b) ∧ b ≠ S ∧ b ≠ I ∧ IsTup s.heap b #[.ref q.2.1, q.2.2] ∧ (TK prog w).is s.heap q.1 q.2.1 ∧ q.2.1 ≠ S ∧ q.2.1 ≠ I) →
      s.heap.IsListIter I l i → s.heap.IsList l items → s.heap.DictOfH (TK prog w) S acc →
      (∀ h' tk, h'.DictOfH (TK prog w) S (mergeH acc rest) → (∀ b o, b ≠ S → b ≠ I → s.heap.get? b = some o → h'.get? b = some o) → R (.ok (.ret res)) { s with heap := h', toks := tk }) →
      codeAny (model prog w) A (.builtin "dict.update.loop" ⟨[.ref S, .ref I, .int ix t, res], []⟩) R s
  | [], i, acc, ix, t, s, hsz, hln, hac, ht, hit, hl, hm, hR => by
    refine codeAny_builtin ud_entry ?_
    rw [Around.under_plainId ud_plain _]
    show wpAny _ A.in1 (pyNext (.ref I) >>= _) _ _ s
    refine wpAny_bind (wpAny_pyNext_list_end (A := A.in1) hh hit hl (by first | exact Array.getElem?_eq_none (Nat.le_of_eq hsz) | (simp at hsz; simp; omega)) fun h' he => ?_)
    show wpAny _ A.in1 (Builtin.Dict.addKeywords S [] >>= _) _ _ _
    refine wpAny_bind (wpAny_pure (wpAny_pure ?_))
    exact hR h' s.toks (dictH_keep hm (fun o e => he S o hSI e) fun x hx o e => he _ o (hac x hx).2 e) fun b o _ hb e => he b o hb e
  | q :: rest, i, acc, ix, t, s, hsz, hln, hac, ht, hit, hl, hm, hR => by
    obtain ⟨b, hb, hbS, hbI, htup, hk, hkS, hkI⟩ := ht 0 q rfl
    rw [List.length_cons] at hsz hln
    refine codeAny_builtin ud_entry ?_
    rw [Around.under_plainId ud_plain _]
    show wpAny _ A.in1 (pyNext (.ref I) >>= _) _ _ s
    refine wpAny_bind (wpAny_pyNext_list_item (x := .ref b) hit hl (by simpa using hb) fun h1 hit1 hs1 => ?_)
    have ht1 : IsTup h1 b #[.ref q.2.1, q.2.2] := htup.extBut hs1.extBut hbI
    have hl1 : h1.IsList l items := hl.extBut hs1.extBut hlI
    have hm1 : h1.DictOfH (TK prog w) S acc := dictH_keep hm (fun o e => hs1.extBut S o hSI e) fun x hx o e => hs1.extBut _ o (hac x hx).2 e
    have hk1 : (TK prog w).is h1 q.1 q.2.1 := isT_keep hk fun o e => hs1.extBut _ o hkI e
    obtain ⟨o, ho, hc, n, hd⟩ := id ht1
    show wpAny _ A.in1 (holding [Value.ref b] _ >>= _) _ _ _
    refine wpAny_bind (wpAny_holding ?_)
    refine wpAny_bind (wpAny_tryCatch ?_)
    unfold Builtin.Dict.pairItems
    refine wpAny_bind (wpAny_typeOf (T := "tuple") ⟨o, ho, hc⟩ ?_)
    rw [if_pos (by first | decide | rfl | simp)]
    refine wpAny_bind (wpAny_seqItems ho hd (wpAny_pure ?_))
    show wpAny _ A.in1 (holding [.ref q.2.1, q.2.2] (dictSet S (.ref q.2.1) q.2.2)) _ _ _
    refine wpAny_holding (wpAny_dictSet_heap (knd := TK prog w) (k := q.1) (by show A.units + 1 < cLine; omega) hk1 hm1 (fun h2 hm2 hs2 => ?_) (by omega))
    refine wpAny_pure ⟨plainId_quiet ud_plain _, upd_loopT (items := items) hu hh hlI hSI hSl rest (i + 1) (storedH acc q.1 q.2.1 q.2.2) (ix + 1) 0 _ (show items.size = i + 1 + rest.length by omega) ?_ (fun x hx => ?_) (fun j q' e => ?_) ?_ ?_ hm2 fun h' tk hd' k => ?_⟩
    · have z := storedH_len acc q.1 q.2.1 q.2.2
      omega
    · rcases storedH_addr hx with e | ⟨y, hy, e⟩
      · rw [e]; exact ⟨hkS, hkI⟩
      · rw [← e]; exact hac y hy
    · obtain ⟨b', hb', hbS', hbI', htup', hk', hkS', hkI'⟩ := ht (j + 1) q' (by simpa using e)
      refine ⟨b', ?_, hbS', hbI', (htup'.extBut hs1.extBut hbI').extBut hs2.extBut hbS', isT_keep (isT_keep hk' fun o e => hs1.extBut _ o hkI' e) (fun o e => hs2.extBut _ o hkS' e), hkS', hkI'⟩
      rw [show i + 1 + j = i + (j + 1) by omega]
      exact hb'
    · exact hit1.at fun o' e => hs2.extBut I o' (Ne.symm hSI) e
    · exact hl1.extBut hs2.extBut (Ne.symm hSl)
    · exact hR h' tk hd' fun c oc h3 h4 e => k c oc h3 h4 (hs2.extBut c oc h3 (hs1.extBut c oc h4 e))
/-- dict(l) of a list of pairs with tuples as keys -/
theorem call_dict_pairsT {s : Shared} {l : Addr} {ol : Obj} {items : Array Value} {n : Nat} {prs : List (List Key × Addr × Value)} {Q : Value → Shared → Prop} (hu : A.units + 60 < cLine) (hh : A.handled = none) (hl : s.heap.get? l = some ol) (hc : ol.cls = .type "list") (hd : ol.dict = none)
    (hdat : ol.data = .seq items n) (hsz : items.size = prs.length) (hln : prs.length ≤ sizeLine)
    (ht : ∀ (j : Nat) (q : List Key × Addr × Value), prs[j]? = some q → ∃ (b : Addr), items[j]? = some (.ref b) ∧ IsTup s.heap b #[.ref q.2.1, q.2.2] ∧ (TK prog w).is s.heap q.1 q.2.1)
    (h : ∀ h' tk, h'.DictOfH (TK prog w) s.heap.objs.size (mergeH [] prs) → (∀ b o, s.heap.get? b = some o → h'.get? b = some o) → Q (.ref s.heap.objs.size) { s with heap := h', toks := tk }) :
    wpAny (model prog w) A (call (.type "dict") [.ref l]) Q E s := by
  refine callType_codes (Q₁ := fun obj s₁ => obj = .ref s.heap.objs.size ∧ s₁ = { s with heap := s.heap.push { cls := .type "dict", data := .dict #[] } }) PySem.F.kt_called_dict (PySem.F.kt_typeCall_dict_1 _) PySem.F.entry_dict_init (kt_code_dict_new _ ⟨rfl, rfl⟩) ?_
  rintro obj s₁ ⟨rfl, rfl⟩
  have hnew : (s.heap.push { cls := .type "dict", data := .dict #[] }).DictOfH (TK prog w) s.heap.objs.size [] := Heap.DictOfH.new s.heap
  have k0 : ∀ b o, s.heap.get? b = some o → (s.heap.push { cls := .type "dict", data := .dict #[] }).get? b = some o := fun b o e => Heap.get?_push_of_some _ e
  have hnewT : ({ s with heap := s.heap.push { cls := .type "dict", data := .dict #[] } } : Shared).TypeIs (.ref s.heap.objs.size) "dict" := Heap.DictOfH.typeIs (knd := TK prog w) (s := { s with heap := s.heap.push { cls := .type "dict", data := .dict #[] } }) hnew
  refine ⟨hnewT, PySem.F.args_dict_init_2 _ _, ?_⟩
  unfold Builtin.«dict.__init__»
  refine wpAny_bind ?_
  unfold Builtin.Dict.selfAndRest
  refine wpAny_bind (wpAny_notOrdered_dict hnewT ?_)
  show wpAny _ _ (pure (s.heap.objs.size, [Value.ref l])) _ _ _
  refine wpAny_pure ?_
  show wpAny _ _ (Builtin.Dict.updateFrom "dict.__init__" s.heap.objs.size (.ref l) [] .none) _ _ _
  unfold Builtin.Dict.updateFrom
  refine wpAny_bind (wpAny_typeOf (T := "list") ⟨ol, k0 _ _ hl, hc⟩ ?_)
  rw [if_pos (by first | decide | rfl | simp)]
  refine wpAny_bind (miss_list (k0 _ _ hl) hc hdat hd hh fun h1 tk1 hk1 => ?_)
  rw [if_pos (show (none : Option Value).isNone = true from rfl)]
  refine wpAny_bind (wpAny_rule ?_)
  have hl1 : h1.IsList l items := ⟨ol, hk1 _ _ (k0 _ _ hl), hc, n, hdat⟩
  have hS1 : s.heap.objs.size < h1.objs.size := by
    have e : (s.heap.push { cls := .type "dict", data := .dict #[] }).get? s.heap.objs.size = some { cls := .type "dict", data := .dict #[] } := Heap.get?_push_size _ rfl
    exact Heap.lt_size (hk1 _ _ e)
  refine wpAny_bind (wpAny_pyIter_list hl1 ?_)
  have k2 : ∀ b o, h1.get? b = some o → (h1.push { cls := .type "list_iterator", data := .fields #[.ref l, .int 0 0] }).get? b = some o := fun b o e => Heap.get?_push_of_some _ e
  have hlt : l < s.heap.objs.size := Heap.lt_size hl
  have key := upd_loopT (prog := prog) (w := w) (A := A.in1) (R := wants (fun r s₂ => r = .none ∧ Q (.ref s.heap.objs.size) s₂) E) (S := s.heap.objs.size) (I := h1.objs.size) (l := l) (items := items) (res := Value.none) (by show A.units + 1 + 2 < cLine; omega) hh
    (Nat.ne_of_lt (Nat.lt_trans hlt hS1)) (Nat.ne_of_lt hS1) (Nat.ne_of_gt hlt) prs 0 [] 0 0
    { s with heap := h1.push { cls := .type "list_iterator", data := .fields #[.ref l, .int 0 0] }, toks := tk1 } (by rw [hsz, Nat.zero_add]) (by rw [List.length_nil, Nat.zero_add]; exact hln) (fun x hx => by simp at hx)
    (fun j q e => by
      obtain ⟨b, e1, e2, e3⟩ := ht j q e
      have hb : b < s.heap.objs.size := e2.lt
      obtain ⟨o, its, nn, g1, g2⟩ := id e3
      have hq : q.2.1 < s.heap.objs.size := Heap.lt_size g1
      exact ⟨b, by rw [Nat.zero_add]; exact e1, Nat.ne_of_lt hb, Nat.ne_of_lt (Nat.lt_trans hb hS1), e2.keeps fun c o z => k2 _ _ (hk1 _ _ (k0 _ _ z)), isT_keep e3 fun o z => k2 _ _ (hk1 _ _ (k0 _ _ z)), Nat.ne_of_lt hq, Nat.ne_of_lt (Nat.lt_trans hq hS1)⟩)
    ⟨_, Heap.get?_push_size _ rfl, rfl, rfl⟩ (hl1.at fun o e => k2 _ _ e) (dictH_keep (dictH_keep hnew (fun o e => hk1 _ _ e) fun x hx => by simp at hx) (fun o e => k2 _ _ e) fun x hx => by simp at hx)
    (fun h' tk hd' k => ⟨rfl, h h' tk hd' fun b o e => k b o (Nat.ne_of_lt (Heap.lt_size e)) (Nat.ne_of_lt (Nat.lt_trans (Heap.lt_size e) hS1)) (k2 _ _ (hk1 _ _ (k0 _ _ e)))⟩)
  first
    | exact wpAny_pure ⟨plainId_quiet ud_plain _, key⟩
    | exact wpAny_bind (wpAny_pure (wpAny_pure ⟨plainId_quiet ud_plain _, key⟩))
end
section
variable {X : Cx}
def mergeT (kvs more : List (List Key × V)) : List (List Key × V) := more.foldl (fun acc kv => putK acc kv.1 kv.2) kvs
theorem mergeT_len : ∀ (more kvs : List (List Key × V)), (mergeT kvs more).length ≤ kvs.length + more.length
  | [], kvs => by show kvs.length ≤ kvs.length + 0; omega
  | p :: r, kvs => by
    have h1 := mergeT_len r (putK kvs p.1 p.2)
    have h2 := length_putK kvs p.1 p.2
    show (mergeT (putK kvs p.1 p.2) r).length ≤ _
    rw [List.length_cons]; omega
theorem KT_merge {H : Hp} : ∀ {more : List (List Key × V)} {rs : List (List Key × Addr × Value)} {kvs : List (List Key × V)} {vs : List (List Key × Addr × Value)}, KT H more rs → KT H kvs vs → KT H (mergeT kvs more) (mergeH vs rs)
  | _, _, _, _, .nil, q => q
  | _, _, _, _, .cons h t, q => by
    have := q.put _ h.2.1 h.2.2
    rw [h.1] at this
    have r := KT_merge t this
    unfold mergeT mergeH
    simp only [List.foldl_cons]
    rw [h.1]
    exact r
/-- the pairs as they stand -/
def PairT (K : PySem.W.Frag) (H : Hp) (p : Addr) (kv : List Key × V) : Prop := ∃ b, SqT K H p [.ref b, kv.2] ∧ H b = some (.tup (kv.1.map kV))
theorem pairsT_of {pins : List (Addr × Obj)} {σ : L2.St} {H : Hp} {s : Shared} (I : Inv X pins σ H s) : ∀ {ps : List Addr} {kvs : List (List Key × V)}, Paired (PairT X.K H) ps kvs →
    ∃ prs : List (List Key × Addr × Value), KT H kvs prs ∧ prs.length = ps.length ∧ ∀ (j : Nat) (q : List Key × Addr × Value), prs[j]? = some q → ∃ (b : Addr), ps[j]? = some b ∧ IsTup s.heap b #[.ref q.2.1, q.2.2] ∧ (TK X.prog X.w).is s.heap q.1 q.2.1
  | _, _, .nil => ⟨[], .nil, rfl, fun j q e => by simp at e⟩
  | _, _, .cons (a := p) (b := kv) h t => by
    obtain ⟨prs, r, hl, hp⟩ := pairsT_of I t
    obtain ⟨b, h1, h2⟩ := h
    obtain ⟨its, rv, ht, _⟩ := I.tuple h1
    obtain ⟨u, y, ei, ru, ry⟩ := vals2 rv
    subst ei
    cases (show u = Value.ref b from ru)
    refine ⟨(kv.1, b, y) :: prs, .cons ⟨rfl, h2, ry⟩ r, by rw [List.length_cons, List.length_cons, hl], fun j q e => ?_⟩
    cases j with
    | zero =>
      have e' : (kv.1, b, y) = q := Option.some.inj e
      subst e'
      exact ⟨p, rfl, ht, key_of I.hok h2⟩
    | succ j =>
      obtain ⟨b, e1, e2, e3⟩ := hp j q (by simpa using e)
      exact ⟨b, by simpa using e1, e2, e3⟩
/-- dict(xs) of a list of pairs (tuple, value): later pairs win, the place is the first one's -/
theorem call_dictT (hu : X.A.units + 60 < cLine) (hcalm : X.calm = true) : CallR X (.type "dict") (fun xs H Q => ∃ (a : Addr) (ps : List Addr) (kvs : List (List Key × V)), xs = [.ref a] ∧ SqL X.K H a (ps.map V.ref) ∧ Paired (PairT X.K H) ps kvs ∧
    ∀ p, H p = none → Q (.ref p) (upd H p (.dT (mergeT [] kvs)))) := by
  intro pins s σ H xs us Q I r q
  obtain ⟨a, ps, kvs, ex, hq, hp, q⟩ := q
  subst ex
  obtain ⟨u, eu, rx⟩ := vals1 r
  subst eu
  cases rx
  obtain ⟨its, rv, pl, hz⟩ := I.list hq
  have ei := refs_at rv
  subst ei
  rw [List.length_map] at hz
  obtain ⟨prs, rel, hl, hpr⟩ := pairsT_of I hp
  obtain ⟨o, n, ho, hc, hd, hdat⟩ := pl
  refine call_dict_pairsT (prs := prs) hu (I.ok.hd hcalm) ho hc hd hdat (by simp [hl]) (by rw [hl]; exact hz) (fun j q' e => ?_) fun h' tk hd' k => ?_
  · obtain ⟨b, e1, e2, e3⟩ := hpr j q' e
    exact ⟨b, by simp [e1], e2, e3⟩
  · have hm : (s.heap.objs.size == sysModules) = false := beq_eq_false_iff_ne.mpr (Nat.ne_of_gt I.big)
    have hlen : (mergeT [] kvs).length ≤ sizeLine := by
      refine Nat.le_trans (mergeT_len kvs []) ?_
      rw [List.length_nil, Nat.zero_add, Paired.length rel, hl]
      exact hz
    have hf : H s.heap.objs.size = none := I.hok.fresh (Nat.le_refl _)
    have rel' : KT (upd H s.heap.objs.size (.dT (mergeT [] kvs))) (mergeT [] kvs) (mergeH [] prs) := (KT_merge rel .nil).keeps fun b ys e => by rw [upd_ne (ne_of_none e hf)]; exact e
    obtain ⟨q', es, ep, g1, g2, g3, g4, _, g5⟩ := hd'
    exact ⟨.ref s.heap.objs.size, upd H s.heap.objs.size (.dT (mergeT [] kvs)), I.laid (t' := tk) k (Nat.le_refl _) (show ObjOk X.prog X.w _ _ _ (.dT (mergeT [] kvs)) from ⟨hlen, hm, _, rel', q', es, ep, g1, g2, g3, g4, g5⟩), rfl, q _ hf⟩
end
end EV

namespace EV
open PyProof.Rows PySem L2 PySem.Spec

/-! ### readings -/
section
variable (M : Mt)
/-- what a run of m wants to come to -/
def Post (Z H : Hp) (ρ : Env) (φ : Nat → List Addr) (σ : L2.St) (o : O) (ρ' : Env) (Q : VK) : Prop :=
  ∀ v Z' H' φ' f, Stp Z H (Own ρ φ) Z' H' (fun a => Own ρ' φ' a ∨ a ∈ f) → EOk M Z' H' σ ρ' φ' → RpO M Z' H' o v f → (∀ a ∈ f, Z' a = none ∧ ¬ Own ρ' φ' a) → Q v H'
def tM (m : Env → Option (O × Env)) : TE := fun σ H Q => ∃ Z ρ φ o ρ', EOk M Z H σ ρ φ ∧ m ρ = some (o, ρ') ∧ Post M Z H ρ φ σ o ρ' Q
def tT (m : Env → Option (O × Env)) : TT := fun σ H Q => ∃ Z ρ φ b ρ', EOk M Z H σ ρ φ ∧ m ρ = some (.val (.bl b), ρ') ∧
  ∀ Z' H' φ', Stp Z H (Own ρ φ) Z' H' (Own ρ' φ') → EOk M Z' H' σ ρ' φ' → Q b H'
end
theorem PE.weak {X : Cx} {e : Expr} {t t' : TE} (h : PE X e t) (w : ∀ σ H Q, t' σ H Q → t σ H Q) : PE X e t' := ⟨fun pins s σ H Q I q => h.run pins s σ H Q I (w σ H Q q)⟩
theorem PT.weak {X : Cx} {e : Expr} {t t' : TT} (h : PT X e t) (w : ∀ σ H Q, t' σ H Q → t σ H Q) : PT X e t' := ⟨fun pins s σ H Q I q => h.run pins s σ H Q I (w σ H Q q)⟩
theorem PA.weak {X : Cx} {e : List Expr} {t t' : TA} (h : PA X e t) (w : ∀ σ H Q, t' σ H Q → t σ H Q) : PA X e t' := ⟨fun p pins s σ H Q I q => h.run p pins s σ H Q I (w σ H Q q)⟩
theorem PS.weak {X : Cx} {e : Stmt} {t t' : TS} (h : PS X e t) (w : ∀ D σ H, t' D σ H → t D σ H) : PS X e t' := ⟨fun pins s σ H D I q => h.run pins s σ H D I (w D σ H q)⟩
theorem PSs.weak {X : Cx} {e : List Stmt} {t t' : TS} (h : PSs X e t) (w : ∀ D σ H, t' D σ H → t D σ H) : PSs X e t' := ⟨fun pins s σ H D I q => h.run pins s σ H D I (w D σ H q)⟩

def nest : List TE → TA
  | [] => tNil
  | t :: ts => tCons t (nest ts)
section
variable {M : Mt} {Z H Z' H' Z2 H2 : Hp} {σ : L2.St} {ρ ρ' ρ2 : Env} {φ φ' φ2 : Nat → List Addr} {P R T : Addr → Prop}

/-- nothing is owned anew, nothing is written: a value stands where it stood -/
theorem Post.here {Q : VK} {d : D} {v : V} (e : EOk M Z H σ ρ φ) (h : Post M Z H ρ φ σ (.val d) ρ Q) (r : Rp M Z d v) : Q v H :=
  h v Z H φ [] (Stp.refl.less fun a z => z.elim id fun z => by cases z) e ⟨rfl, r⟩ fun _ z => by cases z

/-- owned things that a value froze: behind a run whose value is then frozen -/
theorem frozen {o : O} {v : V} {f : List Addr} (st : Stp Z H P Z' H' (fun a => Own ρ' φ' a ∨ a ∈ f)) (e : EOk M Z' H' σ ρ' φ') (r : RpO M Z' H' o v f) (hf : ∀ a ∈ f, Z' a = none ∧ ¬ Own ρ' φ' a) :
    ∃ Z2, Stp Z H P Z2 H' (Own ρ' φ') ∧ EOk M Z2 H' σ ρ' φ' ∧ Rp M Z2 o.frz v := by
  obtain ⟨Z2, s1, s2, rp, zn⟩ := r.freeze e.sub fun a ha => (hf a ha).1
  refine ⟨Z2, ⟨st.zz.trans s1, st.ch, st.al, fun a h => ?_, fun a h => st.ow a (.inl h)⟩, ⟨s2, e.len, fun i o hi => ?_, fun a ha => ?_, e.dis⟩, rp⟩
  · rcases zn a h with h | h
    · exact st.zn a h
    · exact .inr (st.ow a (.inr h))
  · obtain ⟨v, h1, h2⟩ := e.hold i o hi
    exact ⟨v, h1, h2.keep s1 fun _ _ _ q => q⟩
  · have h0 := e.out a ha
    cases q : Z2 a with
    | none => rfl
    | some u =>
      rcases zn a (by rw [q]; exact fun z => nomatch z) with h | h
      · exact absurd h0 h
      · exact absurd ha (hf a h).2
/-- a run that goes on behind another one -/
theorem Post.then {o : O} {Q : VK} {ρ1 : Env} {φ1 : Nat → List Addr} {Z1 H1 : Hp} (st : Stp Z H (Own ρ φ) Z1 H1 (Own ρ1 φ1)) (h : Post M Z H ρ φ σ o ρ' Q) : Post M Z1 H1 ρ1 φ1 σ o ρ' Q :=
  fun v Z' H' φ' f s2 e r hf => h v Z' H' φ' f (st.trans s2) e r hf

/-- small operations make new things at most -/
structure Ext (Z H Z' H' : Hp) (f : List Addr) : Prop where
  zz : Sub Z Z'
  zh : Sub Z' H'
  hh : Sub H H'
  zn : ∀ a, Z' a ≠ none → Z a ≠ none ∨ H a = none
  fr : ∀ a ∈ f, H a = none ∧ Z' a = none
theorem Ext.refl (s : Sub Z H) : Ext Z H Z H [] := ⟨.refl _, s, .refl _, fun _ h => .inl h, fun _ h => by cases h⟩
theorem EOk.ext {f : List Addr} (e : EOk M Z H σ ρ φ) (x : Ext Z H Z' H' f) : EOk M Z' H' σ ρ φ := by
  refine ⟨x.zh, e.len, fun i o hi => ?_, fun a ha => ?_, e.dis⟩
  · obtain ⟨v, h1, h2⟩ := e.hold i o hi
    exact ⟨v, h1, h2.keep x.zz fun a _ u q => x.hh a u q⟩
  · have h0 := e.out a ha
    cases q : Z' a with
    | none => rfl
    | some u =>
      rcases x.zn a (by rw [q]; exact fun z => nomatch z) with h | h
      · exact absurd h0 h
      · obtain ⟨i, o, hi, hm⟩ := ha
        obtain ⟨v, _, h2⟩ := e.hold i o hi
        obtain ⟨u, hu⟩ := h2.alloc a hm
        rw [hu] at h; cases h
theorem Ext.stp {f : List Addr} (x : Ext Z H Z' H' f) : Stp Z H P Z' H' (fun a => P a ∨ a ∈ f) :=
  ⟨x.zz, fun a o h _ => x.hh a o h, (fun a h z => by
    cases q : H a with
    | none => exact h q
    | some u => rw [x.hh a u q] at z; cases z), fun a h => (x.zn a h).elim .inl fun z => .inr (.inr z), fun a h => h.elim .inl fun z => .inr (x.fr a z).1⟩
/-- what a small operation's value is wanted for -/
def Cont (M : Mt) (Z H : Hp) (o : O) (Q : VK) : Prop := ∀ v Z' H' f, Ext Z H Z' H' f → RpO M Z' H' o v f → Q v H'
theorem Cont.val {d : D} {v : V} {Q : VK} (s : Sub Z H) (c : Cont M Z H (.val d) Q) (r : Rp M Z d v) : Q v H := c v Z H [] (.refl s) ⟨rfl, r⟩
theorem Post.cont {o : O} {Q : VK} {Z1 H1 : Hp} {φ1 : Nat → List Addr} (st : Stp Z H (Own ρ φ) Z1 H1 (Own ρ' φ1)) (e : EOk M Z1 H1 σ ρ' φ1) (h : Post M Z H ρ φ σ o ρ' Q) : Cont M Z1 H1 o Q :=
  fun v Z' H' f x r => h v Z' H' φ1 f (st.trans x.stp) (e.ext x) r fun a ha => ⟨(x.fr a ha).2, fun z => by
    obtain ⟨i, o, hi, hm⟩ := z
    obtain ⟨v, _, h2⟩ := e.hold i o hi
    obtain ⟨u, hu⟩ := h2.alloc a hm
    rw [(x.fr a ha).1] at hu; cases hu⟩

/-! ### operands -/
section
variable (M) (G : List D) (CL : List (List Nat)) (C : CallF)
def rdV (e : E) : TE := tM M (ev G CL C e false)
def rdO : E → TE
  | .bw i => tVar i
  | e => tM M (ev G CL C e false)
def rdA : E → TE
  | .rf i => tVar i
  | e => tM M (ev G CL C e false)
end
theorem RpWs.mono : ∀ {ds : List D} {vs : List V}, RpWs M Z H ds vs → Sub Z Z' → Sub H H' → RpWs M Z' H' ds vs
  | [], _, h, _, _ => h
  | d :: ds, _, h, s1, s2 => by
    obtain ⟨v, vs, rfl, h1, h2⟩ := h
    exact ⟨v, vs, rfl, h1.keep s1 s2, RpWs.mono h2 s1 s2⟩
variable {G : List D} {CL : List (List Nat)} {C : CallF}
theorem vals_ok : ∀ (es : List E) {Z H : Hp} {ρ ρ' : Env} {φ : Nat → List Addr} {ds : List D} {K : List V → Hp → Prop}, EOk M Z H σ ρ φ → evV G CL C es ρ = some (ds, ρ') →
    (∀ vs Z' H' φ', Stp Z H (Own ρ φ) Z' H' (Own ρ' φ') → EOk M Z' H' σ ρ' φ' → RpA M Z' ds vs → K vs H') → nest (es.map (rdV M G CL C)) σ H K
  | [], Z, H, ρ, ρ', φ, ds, K, e, h, k => by
    simp only [evV, Option.some.injEq, Prod.mk.injEq] at h
    obtain ⟨rfl, rfl⟩ := h
    exact k [] Z H φ .refl e rfl
  | x :: es, Z, H, ρ, ρ', φ, ds, K, e, h, k => by
    unfold evV at h
    cases q1 : ev G CL C x false ρ with
    | none => rw [q1] at h; cases h
    | some p =>
      obtain ⟨o, ρ1⟩ := p
      rw [q1] at h
      simp only at h
      cases q2 : evV G CL C es ρ1 with
      | none => rw [q2] at h; cases h
      | some p2 =>
        obtain ⟨ds2, ρ2⟩ := p2
        rw [q2] at h
        simp only [Option.some.injEq, Prod.mk.injEq] at h
        obtain ⟨rfl, rfl⟩ := h
        refine ⟨Z, ρ, φ, o, ρ1, e, q1, fun v Z1 H1 φ1 f st e1 r hf => ?_⟩
        obtain ⟨Z2, st2, e2, rp⟩ := frozen st e1 r hf
        refine vals_ok es e2 q2 fun vs Z3 H3 φ3 st3 e3 ra => ?_
        exact k (v :: vs) Z3 H3 φ3 (st2.trans st3) e3 ⟨v, vs, rfl, Rp.mono st3.zz _ _ rp, ra⟩
theorem ops_ok : ∀ (es : List E) {Z H : Hp} {ρ ρ' : Env} {φ : Nat → List Addr} {ds : List D} {K : List V → Hp → Prop}, EOk M Z H σ ρ φ → evO G CL C es ρ = some (ds, ρ') →
    (∀ vs Z' H' φ', Stp Z H (Own ρ φ) Z' H' (Own ρ' φ') → EOk M Z' H' σ ρ' φ' → RpWs M Z' H' ds vs → K vs H') → nest (es.map (rdO M G CL C)) σ H K
  | [], Z, H, ρ, ρ', φ, ds, K, e, h, k => by
    simp only [evO, Option.some.injEq, Prod.mk.injEq] at h
    obtain ⟨rfl, rfl⟩ := h
    exact k [] Z H φ .refl e rfl
  | x :: es, Z, H, ρ, ρ', φ, ds, K, e, h, k => by
    by_cases hb : ∃ i, x = .bw i
    · obtain ⟨i, rfl⟩ := hb
      unfold evO at h
      simp only at h
      cases q0 : getS ρ i with
      | none => rw [q0] at h; cases h
      | some o0 =>
      rw [q0] at h
      simp only at h
      cases q2 : evO G CL C es ρ with
      | none => rw [q2] at h; cases h
      | some p2 =>
        obtain ⟨ds2, ρ2⟩ := p2
        rw [q2] at h
        simp only at h
        cases q3 : getS ρ2 i with
        | none => rw [q3] at h; cases h
        | some o =>
          rw [q3] at h
          simp only [Option.some.injEq, Prod.mk.injEq] at h
          obtain ⟨rfl, rfl⟩ := h
          obtain ⟨v, hv, _⟩ := e.hold i o0 q0
          refine ⟨v, hv, ?_⟩
          refine ops_ok es e q2 fun vs Z3 H3 φ3 st3 e3 ra => ?_
          obtain ⟨v', hv', r⟩ := e3.hold i o q3
          rw [hv] at hv'
          cases hv'
          exact k (v :: vs) Z3 H3 φ3 st3 e3 ⟨v, vs, rfl, ⟨o, _, r, rfl⟩, ra⟩
    · have hd : rdO M G CL C x = tM M (ev G CL C x false) := by
        cases x <;> first | rfl | exact absurd ⟨_, rfl⟩ hb
      have h' : (match ev G CL C x false ρ with
          | none => none
          | some (o, ρ1) => match evO G CL C es ρ1 with
            | none => none
            | some (ds, ρ') => some (o.frz :: ds, ρ')) = some (ds, ρ') := by
        cases x <;> first | exact h | exact absurd ⟨_, rfl⟩ hb
      cases q1 : ev G CL C x false ρ with
      | none => rw [q1] at h'; cases h'
      | some p =>
        obtain ⟨o, ρ1⟩ := p
        rw [q1] at h'
        simp only at h'
        cases q2 : evO G CL C es ρ1 with
        | none => rw [q2] at h'; cases h'
        | some p2 =>
          obtain ⟨ds2, ρ2⟩ := p2
          rw [q2] at h'
          simp only [Option.some.injEq, Prod.mk.injEq] at h'
          obtain ⟨rfl, rfl⟩ := h'
          show nest (rdO M G CL C x :: es.map (rdO M G CL C)) σ H K
          rw [hd]
          refine ⟨Z, ρ, φ, o, ρ1, e, q1, fun v Z1 H1 φ1 f st e1 r hf => ?_⟩
          obtain ⟨Z2, st2, e2, rp⟩ := frozen st e1 r hf
          refine ops_ok es e2 q2 fun vs Z3 H3 φ3 st3 e3 ra => ?_
          exact k (v :: vs) Z3 H3 φ3 (st2.trans st3) e3 ⟨v, vs, rfl, .of (Rp.mono st3.zz _ _ rp), ra⟩
end
end EV

namespace EV
open PyProof.Rows PySem L2 PySem.Spec

section
variable {M : Mt} {Z H : Hp} {Q : VK} {p : Addr}
theorem Sub.none {Z H : Hp} {a : Addr} (s : Sub Z H) (h : H a = none) : Z a = none := by
  cases q : Z a with
  | none => rfl
  | some u => rw [s a u q] at h; cases h
theorem new_lst {ds : List D} {vs : List V} (s : Sub Z H) (c : Cont M Z H (.lst ds) Q) (r : RpA M Z ds vs) (hp : H p = none) : Q (.ref p) (upd H p (.lst vs)) := by
  refine c (.ref p) Z (upd H p (.lst vs)) [p] ⟨.refl _, fun a o h => ?_, fun a o h => ?_, fun _ h => .inl h, fun a h => ?_⟩ ⟨p, vs, rfl, rfl, upd_same, r⟩
  · rw [upd_ne (ne_of_none (s a o h) hp)]; exact s a o h
  · rw [upd_ne (ne_of_none h hp)]; exact h
  · simp at h; subst h; exact ⟨hp, s.none hp⟩
theorem new_dK {ds : List (Key × D)} {vs : List (Key × V)} (s : Sub Z H) (c : Cont M Z H (.dctK ds) Q) (r : RpK M Z ds vs) (hp : H p = none) : Q (.ref p) (upd H p (.dK vs)) := by
  refine c (.ref p) Z (upd H p (.dK vs)) [p] ⟨.refl _, fun a o h => ?_, fun a o h => ?_, fun _ h => .inl h, fun a h => ?_⟩ ⟨p, vs, rfl, rfl, upd_same, r⟩
  · rw [upd_ne (ne_of_none (s a o h) hp)]; exact s a o h
  · rw [upd_ne (ne_of_none h hp)]; exact h
  · simp at h; subst h; exact ⟨hp, s.none hp⟩
theorem new_dT {ds : List (List Key × D)} {vs : List (List Key × V)} (s : Sub Z H) (c : Cont M Z H (.dctT ds) Q) (r : RpT M Z ds vs) (hp : H p = none) : Q (.ref p) (upd H p (.dT vs)) := by
  refine c (.ref p) Z (upd H p (.dT vs)) [p] ⟨.refl _, fun a o h => ?_, fun a o h => ?_, fun _ h => .inl h, fun a h => ?_⟩ ⟨p, vs, rfl, rfl, upd_same, r⟩
  · rw [upd_ne (ne_of_none (s a o h) hp)]; exact s a o h
  · rw [upd_ne (ne_of_none h hp)]; exact h
  · simp at h; subst h; exact ⟨hp, s.none hp⟩
/-- a new tuple, tracked -/
theorem new_tupK {ds : List D} {vs : List V} (s : Sub Z H) (r : RpA M Z ds vs) (hp : H p = none) : ∃ Z', Ext Z H Z' (upd H p (.tup vs)) [] ∧ Z' p = some (.tup vs) ∧ RpA M Z' ds vs := by
  have hz := s.none hp
  have s1 : Sub Z (upd Z p (.tup vs)) := fun a o h => by rw [upd_ne (ne_of_none h hz)]; exact h
  refine ⟨upd Z p (.tup vs), ⟨s1, fun a o h => ?_, fun a o h => ?_, fun a h => ?_, fun a h => by cases h⟩, upd_same, RpA.mono s1 _ _ r⟩
  · by_cases e : a = p
    · subst e; rw [upd_same] at h ⊢; exact h
    · rw [upd_ne e] at h ⊢; exact s a o h
  · rw [upd_ne (ne_of_none h hp)]; exact h
  · by_cases e : a = p
    · subst e; exact .inr hp
    · rw [upd_ne e] at h; exact .inl h
theorem new_tup {ds : List D} {vs : List V} (s : Sub Z H) (c : Cont M Z H (.val (.tup ds)) Q) (r : RpA M Z ds vs) (hp : H p = none) : Q (.ref p) (upd H p (.tup vs)) := by
  have hz := s.none hp
  have s1 : Sub Z (upd Z p (.tup vs)) := fun a o h => by rw [upd_ne (ne_of_none h hz)]; exact h
  refine c (.ref p) (upd Z p (.tup vs)) (upd H p (.tup vs)) [] ⟨s1, fun a o h => ?_, fun a o h => ?_, fun a h => ?_, fun a h => by cases h⟩ ⟨rfl, p, vs, rfl, .inl upd_same, RpA.mono s1 _ _ r⟩
  · by_cases e : a = p
    · subst e; rw [upd_same] at h ⊢; exact h
    · rw [upd_ne e] at h ⊢; exact s a o h
  · rw [upd_ne (ne_of_none h hp)]; exact h
  · by_cases e : a = p
    · subst e; exact .inr hp
    · rw [upd_ne e] at h; exact .inl h

/-! ### what is known of a value by its data -/
def isVal : D → Bool
  | .lst _ => false
  | .dctK _ => false
  | .dctT _ => false
  | _ => true
theorem O.val_of {o : O} {d : D} (h : o.frz = d) (hd : isVal d = true) : o = .val d := by
  cases o with
  | val x => cases h; rfl
  | lst xs => cases h; exact absurd hd Bool.false_ne_true
  | dctK xs => cases h; exact absurd hd Bool.false_ne_true
  | dctT xs => cases h; exact absurd hd Bool.false_ne_true
theorem RpW.ofval {d : D} {v : V} (h : RpW M Z H d v) (hd : isVal d = true) : Rp M Z d v := by
  obtain ⟨o, f, h, e⟩ := h
  have := O.val_of e hd
  subst this
  exact h.2
theorem RpW.non {v : V} (h : RpW M Z H .non v) : v = .non := h.ofval rfl
theorem RpW.bl {b : Bool} {v : V} (h : RpW M Z H (.bl b) v) : v = .bl b := h.ofval rfl
theorem RpW.int {i : Int} {v : V} (h : RpW M Z H (.int i) v) : v = .int i := h.ofval rfl
theorem RpW.str {i : Str} {v : V} (h : RpW M Z H (.str i) v) : v = .str i := h.ofval rfl
theorem RpW.tup {ds : List D} {v : V} (h : RpW M Z H (.tup ds) v) (s : Sub Z H) : ∃ a xs, v = .ref a ∧ SqT M.K H a xs ∧ RpA M Z ds xs := by
  obtain ⟨a, xs, e, h1, h2⟩ := h.ofval rfl
  exact ⟨a, xs, e, s.st h1.sq, h2⟩
theorem RpW.seq {d : D} {ds : List D} {v : V} (h : RpW M Z H d v) (s : Sub Z H) (e : seqOf d = some ds) : ∃ a xs, v = .ref a ∧ (SqL M.K H a xs ∨ SqT M.K H a xs) ∧ RpA M Z ds xs := by
  cases d with
  | lst xs => cases e; obtain ⟨a, xs, e, h1, h2⟩ := h.lst s; exact ⟨a, xs, e, .inl h1, h2⟩
  | tup xs => cases e; obtain ⟨a, xs, e, h1, h2⟩ := h.tup s; exact ⟨a, xs, e, .inr h1, h2⟩
  | _ => cases e
mutual
theorem dp_of (s : Sub Z H) : ∀ (d : D) (v : V) (q : PyData), Rp M Z d v → toPy d = some q → Dp M.K H v q
  | .non, v, q, h, e => by cases h; cases e; exact .non
  | .bl b, v, q, h, e => by cases h; cases e; exact .bl b
  | .int i, v, q, h, e => by cases h; cases e; exact .int i
  | .str i, v, q, h, e => by cases h; cases e; exact .str i
  | .tup ds, v, q, h, e => by
    obtain ⟨a, xs, rfl, h1, h2⟩ := h
    unfold toPy at e
    cases q1 : toPys ds with
    | none => rw [q1] at e; cases e
    | some l => rw [q1] at e; cases e; exact .tup (s.st h1.sq) (dps_of s ds xs l h2 q1)
  | .lst ds, v, q, h, e => by
    obtain ⟨a, xs, rfl, h1, h2⟩ := h
    unfold toPy at e
    cases q1 : toPys ds with
    | none => rw [q1] at e; cases e
    | some l => rw [q1] at e; cases e; exact .lst (s.sl h1) (dps_of s ds xs l h2 q1)
  | .dctK _, _, _, _, e => by cases e
  | .dctT _, _, _, _, e => by cases e
  | .ins _ _, _, _, _, e => by cases e
theorem dps_of (s : Sub Z H) : ∀ (ds : List D) (vs : List V) (q : List PyData), RpA M Z ds vs → toPys ds = some q → DpAll M.K H vs q
  | [], vs, q, h, e => by cases h; cases e; exact .nil
  | d :: ds, vs, q, h, e => by
    obtain ⟨v, vs, rfl, h1, h2⟩ := h
    unfold toPys at e
    cases q1 : toPy d with
    | none => rw [q1] at e; cases e
    | some a =>
      rw [q1] at e
      cases q2 : toPys ds with
      | none => rw [q2] at e; cases e
      | some l => rw [q2] at e; cases e; exact .cons (dp_of s d v a h1 q1) (dps_of s ds vs l h2 q2)
end
theorem RpW.dp {d : D} {v : V} {q : PyData} (h : RpW M Z H d v) (s : Sub Z H) (e : toPy d = some q) : Dp M.K H v q := by
  cases d with
  | lst ds =>
    obtain ⟨a, xs, rfl, h1, h2⟩ := h.lst s
    unfold toPy at e
    cases q1 : toPys ds with
    | none => rw [q1] at e; cases e
    | some l => rw [q1] at e; cases e; exact .lst h1 (dps_of s ds xs l h2 q1)
  | dctK _ => cases e
  | dctT _ => cases e
  | non => exact dp_of s _ _ _ (h.ofval rfl) e
  | bl _ => exact dp_of s _ _ _ (h.ofval rfl) e
  | int _ => exact dp_of s _ _ _ (h.ofval rfl) e
  | str _ => exact dp_of s _ _ _ (h.ofval rfl) e
  | tup _ => exact dp_of s _ _ _ (h.ofval rfl) e
  | ins _ _ => cases e

/-! ### operators of two values -/
/-- r serves p -/
def Srv (M : Mt) (p : Pr) (r : R2) : Prop := ∀ (Z H : Hp) (x y : V) (dx dy : D) (o : O) (Q : VK), Sub Z H → RpW M Z H dx x → RpW M Z H dy y → prim p [dx, dy] = some o → Cont M Z H o Q → r x y H Q
theorem srv_I0 {p : Pr} {g : Int → Int → Int} (h : ∀ dx dy o, prim p [dx, dy] = some o → ∃ i j, dx = .int i ∧ dy = .int j ∧ o = .val (.int (g i j))) : Srv M p (rI0 fun i j => .int (g i j)) := by
  intro Z H x y dx dy o Q s hx hy e c
  obtain ⟨i, j, rfl, rfl, rfl⟩ := h dx dy o e
  exact ⟨i, j, hx.int, hy.int, c.val s rfl⟩
theorem srv_I {p : Pr} {C : Int → Int → Prop} {g : Int → Int → Int} (h : ∀ dx dy o, prim p [dx, dy] = some o → ∃ i j, dx = .int i ∧ dy = .int j ∧ C i j ∧ o = .val (.int (g i j))) : Srv M p (rI C fun i j => .int (g i j)) := by
  intro Z H x y dx dy o Q s hx hy e c
  obtain ⟨i, j, rfl, rfl, hC, rfl⟩ := h dx dy o e
  exact ⟨i, j, hx.int, hy.int, hC, c.val s rfl⟩
end

section
variable {X : Cx}
/-- list + list, whatever way they are to be read -/
def rCatL (K : PySem.W.Frag) : R2 := fun x y H Q => ∃ l b xs zs, x = .ref l ∧ y = .ref b ∧ SqL K H l xs ∧ SqL K H b zs ∧ xs.length + zs.length ≤ sizeLine ∧ ∀ p, H p = none → Q (.ref p) (upd H p (.lst (xs ++ zs)))
theorem op_catL : OpR X (binaryOp .Add) (rCatL X.K) := by
  intro pins s σ H x y v u Q I rx ry h
  obtain ⟨l, b, xs, zs, rfl, rfl, hH, hB, hz, q⟩ := h
  cases rx
  cases ry
  obtain ⟨its, r, pl, z⟩ := I.list hH
  obtain ⟨its2, r2, pl2, z2⟩ := I.list hB
  obtain ⟨⟨cls, dd, data, sl⟩, ho, hc, n, hd⟩ := pl.isList
  obtain ⟨⟨cls2, dd2, data2, sl2⟩, ho2, hc2, n2, hd2⟩ := pl2.isList
  simp only at hc hd hc2 hd2
  subst hc hd hc2 hd2
  have e : its.toArray ++ its2.toArray = (its ++ its2).toArray := by simp
  have hl := r.length
  have hl2 := r2.length
  refine concat_meets ⟨_, ho, rfl⟩ ⟨_, ho2, rfl⟩ noFill_list_add seq_list_add PySem.F.slot_list_add PySem.F.entry_list_add (PySem.F.args_list_add_2 _ _) (list_addW l b its.toArray its2.toArray n n2 dd dd2 sl sl2 (by simp; omega)) ⟨ho, ho2, ?_⟩
  rw [e]
  exact ⟨.ref _, _, I.lnew (t' := s.toks) (r.append r2) (by rw [List.length_append]; omega), rfl, q _ I.fresh⟩
end

section
variable {M : Mt} {X : Cx}
theorem Srv.or {p : Pr} {r r' : R2} (h : ∀ (Z H : Hp) (x y : V) (dx dy : D) (o : O) (Q : VK), Sub Z H → RpW M Z H dx x → RpW M Z H dy y → prim p [dx, dy] = some o → Cont M Z H o Q → r x y H Q ∨ r' x y H Q) : Srv M p (fun x y H Q => r x y H Q ∨ r' x y H Q) := h
theorem log2_64 {j : Int} (h0 : 0 < j) (h : j < 2 ^ 64) : j.natAbs.log2 < 9000 := by
  have : j.natAbs < 2 ^ 64 := by omega
  exact Nat.lt_of_lt_of_le (PySem.Flt.log2_lt_of (by decide) this) (by decide)

/-- the binary operators -/
def binOf : Pr → Option Operator
  | .add => some .Add | .sub => some .Sub | .mul => some .Mult | .fdiv => some .FloorDiv | .mod => some .Mod | .pow => some .Pow | .shl => some .LShift | _ => none
theorem int2_some {x y : D} {f : Int → Int → Option O} {o : O} (h : int2 x y f = some o) : ∃ i j, x = .int i ∧ y = .int j ∧ f i j = some o := by
  unfold int2 at h
  split at h
  · exact ⟨_, _, rfl, rfl, h⟩
  · cases h
theorem ite_some {α : Type} {c : Prop} [Decidable c] {x : Option α} {o : α} (h : (if c then x else none) = some o) : c ∧ x = some o := by
  split at h
  · exact ⟨by assumption, h⟩
  · cases h
theorem oi_some {i : Int} {o : O} (h : oi i = some o) : o = .val (.int i) := (Option.some.inj h).symm
theorem ob_some {i : Bool} {o : O} (h : ob i = some o) : o = .val (.bl i) := (Option.some.inj h).symm
theorem add_srv : Srv M .add (fun x y H Q => rI0 (fun i j => .int (i + j)) x y H Q ∨ (fun x y H Q => ∃ i j, x = V.str i ∧ y = V.str j ∧ i.length + j.length ≤ sizeLine ∧ Q (.str (i ++ j)) H) x y H Q ∨ rCatL M.K x y H Q ∨ rCatA M.K x y H Q) := by
  intro Z H x y dx dy o Q s hx hy e c
  have e : addD dx dy = some o := e
  cases dx with
  | int i =>
    cases dy with
    | int j => cases oi_some e; exact .inl ⟨i, j, hx.int, hy.int, c.val s rfl⟩
    | _ => cases e
  | str i =>
    cases dy with
    | str j =>
      obtain ⟨h, e⟩ := ite_some e
      cases e
      exact .inr (.inl ⟨i, j, hx.str, hy.str, h, c.val s rfl⟩)
    | _ => cases e
  | lst xs =>
    cases dy with
    | lst ys =>
      obtain ⟨h, e⟩ := ite_some e
      cases e
      obtain ⟨a, vs, rfl, h1, h2⟩ := hx.lst s
      obtain ⟨b, ws, rfl, h3, h4⟩ := hy.lst s
      exact .inr (.inr (.inl ⟨a, b, vs, ws, rfl, rfl, h1, h3, by rw [h2.length, h4.length]; exact h, fun p hp => new_lst s c (h2.append h4) hp⟩))
    | _ => cases e
  | tup xs =>
    cases dy with
    | tup ys =>
      obtain ⟨h, e⟩ := ite_some e
      cases e
      have hx' := hx.ofval rfl
      have hy' := hy.ofval rfl
      obtain ⟨a, vs, rfl, h1, h2⟩ := hx.tup s
      obtain ⟨b, ws, rfl, h3, h4⟩ := hy.tup s
      refine .inr (.inr (.inr ⟨a, b, vs, ws, rfl, rfl, h1, h3, by rw [h2.length, h4.length]; exact h, fun e => ?_, fun _ e => ?_, fun _ _ p hp => new_tup s c (h2.append h4) hp⟩))
      · have : xs = [] := by
          have := h2.length
          rw [e] at this
          exact List.eq_nil_of_length_eq_zero this.symm
        subst this
        exact c.val s hy'
      · have : ys = [] := by
          have := h4.length
          rw [e] at this
          exact List.eq_nil_of_length_eq_zero this.symm
        subst this
        rw [List.append_nil] at c
        exact c.val s hx'
    | _ => cases e
  | _ => cases e
/-- a text times 0 or 1 -/
def rRepS : R2 := fun x y H Q => ∃ z k, x = V.str z ∧ y = V.int k ∧ ((k = 1 ∧ Q (.str z) H) ∨ (k = 0 ∧ Q (.str Str.empty) H))
theorem op_repS : OpR X (binaryOp .Mult) rRepS := by
  intro pins s σ H x y v u Q I rx ry h
  obtain ⟨z, k, rfl, rfl, hk⟩ := h
  obtain ⟨t, rfl⟩ := rx
  obtain ⟨t2, rfl⟩ := ry
  rcases hk with ⟨rfl, q⟩ | ⟨rfl, q⟩
  · refine PySem.P.mul_str (by decide) (fun _ h => by simp at h) (fun _ h => by simp at h) ?_
    simp only [show ¬ ((1 : Int) < 1) by omega, if_false, beq_self_eq_true, Bool.true_or, if_true]
    exact ⟨.str z, H, I, ⟨t, rfl⟩, q⟩
  · refine PySem.P.mul_str_none (by decide) (by decide) ?_
    exact ⟨.str Str.empty, H, I.tok _, ⟨_, rfl⟩, q⟩
theorem bin_ok (hK : X.K = M.K) (p : Pr) (op : Operator) (h : binOf p = some op) : ∃ r, OpR X (binaryOp op) r ∧ Srv M p r := by
  cases p <;> simp only [binOf, reduceCtorEq, Option.some.injEq] at h <;> subst h
  case add =>
    refine ⟨_, op_add.or (op_add_str.or (op_catL.or op_catA)), ?_⟩
    rw [hK]
    exact add_srv
  case sub =>
    refine ⟨_, op_sub, srv_I0 fun dx dy o h => ?_⟩
    obtain ⟨i, j, e1, e2, h⟩ := int2_some h
    exact ⟨i, j, e1, e2, oi_some h⟩
  case mul =>
    refine ⟨_, op_mul.or (op_rep01.or op_repS), ?_⟩
    rw [hK]
    intro Z H x y dx dy o Q sb hx hy e c
    cases dx with
    | tup xs =>
      cases dy with
      | int k =>
        have e : (if xs.isEmpty then none else if k = 1 then some (O.val (.tup xs)) else if k = 0 then some (.val (.tup [])) else none) = some o := e
        obtain ⟨a, vs, rfl, h1, h2⟩ := hx.tup sb
        have hx' := hx.ofval rfl
        cases hn : xs.isEmpty with
        | true => rw [hn] at e; cases e
        | false =>
          rw [hn] at e
          simp only [Bool.false_eq_true, if_false] at e
          have hne : vs ≠ [] := fun z => by
            have := h2.length
            rw [z] at this
            rw [List.eq_nil_of_length_eq_zero this.symm] at hn
            cases hn
          refine .inr (.inl ⟨a, k, vs, rfl, hy.int, h1, hne, ?_⟩)
          by_cases k1 : k = 1
          · rw [if_pos k1] at e; cases e
            exact .inl ⟨k1, c.val sb hx'⟩
          · rw [if_neg k1] at e
            obtain ⟨k0, e⟩ := ite_some e
            cases e
            exact .inr ⟨k0, fun p hp => new_tup sb c rfl hp⟩
      | _ => cases e
    | str z =>
      cases dy with
      | int k =>
        have e : (if k = 1 then some (O.val (.str z)) else if k = 0 then some (.val (.str Str.empty)) else none) = some o := e
        refine .inr (.inr ⟨z, k, hx.str, hy.int, ?_⟩)
        by_cases k1 : k = 1
        · rw [if_pos k1] at e; cases e
          exact .inl ⟨k1, c.val sb rfl⟩
        · rw [if_neg k1] at e
          obtain ⟨k0, e⟩ := ite_some e
          cases e
          exact .inr ⟨k0, c.val sb rfl⟩
      | _ => cases e
    | int i =>
      obtain ⟨i, j, e1, e2, h⟩ := int2_some e
      obtain ⟨hc, h⟩ := ite_some h
      cases oi_some h
      cases e1
      subst e2
      exact .inl ⟨i, j, hx.int, hy.int, hc, c.val sb rfl⟩
    | _ => cases e
  case fdiv =>
    refine ⟨_, op_fdivW, srv_I fun dx dy o h => ?_⟩
    obtain ⟨i, j, e1, e2, h⟩ := int2_some h
    obtain ⟨hc, h⟩ := ite_some h
    exact ⟨i, j, e1, e2, ⟨hc.1, log2_64 hc.1 hc.2⟩, oi_some h⟩
  case mod =>
    refine ⟨_, op_mod, srv_I fun dx dy o h => ?_⟩
    obtain ⟨i, j, e1, e2, h⟩ := int2_some h
    obtain ⟨hc, h⟩ := ite_some h
    exact ⟨i, j, e1, e2, hc, oi_some h⟩
  case pow =>
    refine ⟨_, op_pow, srv_I fun dx dy o h => ?_⟩
    obtain ⟨i, j, e1, e2, h⟩ := int2_some h
    obtain ⟨hc, h⟩ := ite_some h
    exact ⟨i, j, e1, e2, hc, oi_some h⟩
  case shl =>
    refine ⟨_, op_shl, srv_I fun dx dy o h => ?_⟩
    obtain ⟨i, j, e1, e2, h⟩ := int2_some h
    obtain ⟨hc, h⟩ := ite_some h
    exact ⟨i, j, e1, e2, hc, oi_some h⟩
end
end EV

namespace EV
open PyProof.Rows PySem L2 PySem.Spec

def cmpOf : Pr → Option CmpOp
  | .eq => some .Eq | .ne => some .NotEq | .lt => some .Lt | .le => some .LtE | .gt => some .Gt | .ge => some .GtE | .isN => some .Is | .notN => some .IsNot | .isin => some .In | .notin => some .NotIn | _ => none

section
variable {X : Cx}
/-- in, of any data: a list, a tuple -/
def rInA (K : PySem.W.Frag) (neg : Bool) : R2 := fun x y H Q => ∃ d ds, Dp K H x d ∧ (Dp K H y (.list ds) ∨ Dp K H y (.tuple ds)) ∧ SeqAt.shaped d = true ∧ PyData.canLayAll0 ds = true ∧ Q (.bl (if neg then !(ds.any fun z => PyData.eqv z d) else ds.any fun z => PyData.eqv z d)) H
theorem op_inA (hu : X.A.units + 65 < cLine) : OpR X (compareOp .In) (rInA X.K false) := by
  intro pins s σ H x y v u Q I rx ry h
  obtain ⟨d, ds, hd, he, sd, se, q⟩ := h
  obtain ⟨as, r1⟩ := Dp.reads I d x v hd rx
  rcases he with he | he
  · obtain ⟨bs, r2⟩ := Dp.reads I (.list ds) y u he ry
    exact SeqAt.in_list_reads r2 r1 se (SeqAt.canLay_of_shaped sd) (PyProof.Rows.room_in_shaped sd hu) ⟨.bl _, H, I, rfl, q⟩
  · obtain ⟨bs, r2⟩ := Dp.reads I (.tuple ds) y u he ry
    exact SeqAt.in_tuple_reads r2 r1 se (SeqAt.canLay_of_shaped sd) (PyProof.Rows.room_in_shaped sd hu) ⟨.bl _, H, I, rfl, q⟩
theorem op_notInA (hu : X.A.units + 65 < cLine) : OpR X (compareOp .NotIn) (rInA X.K true) := by
  intro pins s σ H x y v u Q I rx ry h
  obtain ⟨d, ds, hd, he, sd, se, q⟩ := h
  obtain ⟨as, r1⟩ := Dp.reads I d x v hd rx
  rcases he with he | he
  · obtain ⟨bs, r2⟩ := Dp.reads I (.list ds) y u he ry
    exact SeqAt.notIn_list_reads r2 r1 se (SeqAt.canLay_of_shaped sd) (PyProof.Rows.room_in_shaped sd hu) ⟨.bl _, H, I, rfl, q⟩
  · obtain ⟨bs, r2⟩ := Dp.reads I (.tuple ds) y u he ry
    exact SeqAt.notIn_tuple_reads r2 r1 se (SeqAt.canLay_of_shaped sd) (PyProof.Rows.room_in_shaped sd hu) ⟨.bl _, H, I, rfl, q⟩
/-- in, of a dict -/
def rInDc (K : PySem.W.Frag) (neg : Bool) : R2 := fun x y H Q => ∃ a o, y = .ref a ∧ DG K H a x o ∧ Q (.bl (if neg then !o.isSome else o.isSome)) H
theorem op_inDc (hu : X.A.units + 65 < cLine) : OpR X (compareOp .In) (rInDc X.K false) := by
  intro pins s σ H x y v u Q I rx ry h
  obtain ⟨a, o, rfl, g, q⟩ := h
  cases ry
  exact dg_in (by omega) I g rx fun s' I' => ⟨.bl _, H, I', rfl, q⟩
theorem op_notInDc (hu : X.A.units + 65 < cLine) : OpR X (compareOp .NotIn) (rInDc X.K true) := by
  intro pins s σ H x y v u Q I rx ry h
  obtain ⟨a, o, rfl, g, q⟩ := h
  cases ry
  exact dg_notIn (by omega) I g rx fun s' I' => ⟨.bl _, H, I', rfl, q⟩
end

section
variable {M : Mt} {Z H : Hp}
/-! ### what a dict holds -/
theorem key1_rp {k : D} {κ : Key} {v : V} (h : RpW M Z H k v) (e : key1 k = some κ) : v = kV κ := by
  cases k with
  | int i => cases e; exact h.int
  | str i => cases e; exact h.str
  | _ => cases e
theorem keys1_rp : ∀ {ks : List D} {κs : List Key} {vs : List V}, RpA M Z ks vs → keys1 ks = some κs → vs = κs.map kV
  | [], _, _, h, e => by cases h; cases e; rfl
  | k :: ks, κs, _, h, e => by
    obtain ⟨v, vs, rfl, h1, h2⟩ := h
    unfold keys1 at e
    cases q1 : key1 k with
    | none => rw [q1] at e; cases e
    | some κ =>
      rw [q1] at e
      cases q2 : keys1 ks with
      | none => rw [q2] at e; cases e
      | some l =>
        rw [q2] at e
        cases e
        rw [key1_rp (H := Z) (RpW.of h1) q1, keys1_rp h2 q2]
        rfl
theorem aget_K : ∀ {ds : List (Key × D)} {xs : List (Key × V)} (k : Key), RpK M Z ds xs → match aget ds k, valV xs k with
    | some d, some v => Rp M Z d v
    | none, none => True
    | _, _ => False
  | [], _, k, h => by cases h; exact True.intro
  | (k', d) :: ds, _, k, h => by
    obtain ⟨v, vs, rfl, h1, h2⟩ := h
    by_cases e : k' = k
    · have e1 : aget ((k', d) :: ds) k = some d := by simp [aget, List.find?_cons, e]
      rw [e1, valV_pos e]
      exact h1
    · have e1 : aget ((k', d) :: ds) k = aget ds k := by simp [aget, List.find?_cons, e]
      rw [e1, valV_neg e]
      exact aget_K k h2
theorem aget_T : ∀ {ds : List (List Key × D)} {xs : List (List Key × V)} (k : List Key), RpT M Z ds xs → match aget ds k, valV xs k with
    | some d, some v => Rp M Z d v
    | none, none => True
    | _, _ => False
  | [], _, k, h => by cases h; exact True.intro
  | (k', d) :: ds, _, k, h => by
    obtain ⟨v, vs, rfl, h1, h2⟩ := h
    by_cases e : k' = k
    · have e1 : aget ((k', d) :: ds) k = some d := by simp [aget, List.find?_cons, e]
      rw [e1, valV_pos e]
      exact h1
    · have e1 : aget ((k', d) :: ds) k = aget ds k := by simp [aget, List.find?_cons, e]
      rw [e1, valV_neg e]
      exact aget_T k h2
/-- H holds a tuple as a key -/
theorem keyT_rp {K : PySem.W.Frag} {k : D} {κ : List Key} {v : V} (s : Sub Z H) (h : RpW M Z H k v) (e : keyT k = some κ) : ∃ b, v = .ref b ∧ SqT M.K H b (κ.map kV) := by
  cases k with
  | tup xs =>
    obtain ⟨b, vs, rfl, h1, h2⟩ := h.tup s
    rw [keys1_rp h2 e] at h1
    exact ⟨b, rfl, h1⟩
  | _ => cases e
def RelR (M : Mt) (Z : Hp) : Option D → Option V → Prop
  | some d, some v => Rp M Z d v
  | none, none => True
  | _, _ => False
theorem dget_rp {d k : D} {o : Option D} {x y : V} (s : Sub Z H) (hd : RpW M Z H d x) (hk : RpW M Z H k y) (e : dget d k = some o) : ∃ a r, x = .ref a ∧ DG M.K H a y r ∧ RelR M Z o r := by
  cases d with
  | dctK kvs =>
    obtain ⟨a, xs, rfl, h1, h2⟩ := hd.dctK s
    obtain ⟨κ, q, rfl⟩ := Option.map_eq_some_iff.mp e
    have hv := key1_rp hk q
    subst hv
    refine ⟨a, valV xs κ, rfl, .inl (.inl ⟨xs, κ, .inl h1, rfl, rfl⟩), ?_⟩
    have hr := aget_K κ h2
    cases q1 : aget kvs κ <;> cases q2 : valV xs κ <;> simp only [q1, q2] at hr <;> first | exact hr | exact True.intro
  | dctT kvs =>
    obtain ⟨a, xs, rfl, h1, h2⟩ := hd.dctT s
    obtain ⟨κ, q, rfl⟩ := Option.map_eq_some_iff.mp e
    obtain ⟨b, rfl, hb⟩ := keyT_rp (K := M.K) s hk q
    refine ⟨a, valV xs κ, rfl, .inr ⟨xs, κ, b, .inl h1, rfl, hb, rfl⟩, ?_⟩
    have hr := aget_T κ h2
    cases q1 : aget kvs κ <;> cases q2 : valV xs κ <;> simp only [q1, q2] at hr <;> first | exact hr | exact True.intro
  | _ => cases e

theorem dgetK_rp {kvs : List (Key × D)} {k : D} {o : Option D} {x y : V} (s : Sub Z H) (hd : RpW M Z H (.dctK kvs) x) (hk : RpW M Z H k y) (e : dget (.dctK kvs) k = some o) : ∃ a r, x = .ref a ∧ DGet H a y r ∧ RelR M Z o r := by
  obtain ⟨a, xs, rfl, h1, h2⟩ := hd.dctK s
  obtain ⟨κ, q, rfl⟩ := Option.map_eq_some_iff.mp e
  have hv := key1_rp hk q
  subst hv
  refine ⟨a, valV xs κ, rfl, .inl ⟨xs, κ, .inl h1, rfl, rfl⟩, ?_⟩
  have hr := aget_K κ h2
  cases q1 : aget kvs κ <;> cases q2 : valV xs κ <;> simp only [q1, q2] at hr <;> first | exact hr | exact True.intro
/-! ### == -/
theorem RpW.isref {d : D} {v : V} (h : RpW M Z H d v) (s : Sub Z H) (hd : flatD d = false) : ∃ a, v = .ref a := by
  cases d with
  | lst ds => obtain ⟨a, _, e, _⟩ := h.lst s; exact ⟨a, e⟩
  | dctK ds => obtain ⟨a, _, e, _⟩ := h.dctK s; exact ⟨a, e⟩
  | dctT ds => obtain ⟨a, _, e, _⟩ := h.dctT s; exact ⟨a, e⟩
  | tup ds => obtain ⟨a, _, e, _⟩ := h.tup s; exact ⟨a, e⟩
  | ins c ds => obtain ⟨a, _, _, e, _⟩ := h.ofval rfl; exact ⟨a, e⟩
  | _ => cases hd
theorem eqS_rp {dx dy : D} {x y : V} {b : Bool} (hx : RpW M Z H dx x) (hy : RpW M Z H dy y) (e : eqS dx dy = some b) : scal x y = true ∧ decide (x = y) = b := by
  cases dx <;> cases dy <;> first
    | (cases e; done)
    | (first | cases hx.non | cases hx.bl | cases hx.int | cases hx.str) <;> (first | cases hy.non | cases hy.bl | cases hy.int | cases hy.str) <;> (cases e; exact ⟨rfl, by simp⟩)
theorem eqP_rp {dx dy : D} {x y : V} {b : Bool} (s : Sub Z H) (hx : RpW M Z H dx x) (hy : RpW M Z H dy y) (e : eqP dx dy = some b) :
    ∃ p q, Dp M.K H x p ∧ Dp M.K H y q ∧ SeqAt.shaped p = true ∧ SeqAt.shaped q = true ∧ PyData.eqv p q = b := by
  unfold eqP at e
  cases q1 : toPy dx with
  | none => rw [q1] at e; cases e
  | some p =>
    cases q2 : toPy dy with
    | none => rw [q1, q2] at e; cases e
    | some q =>
      rw [q1, q2] at e
      obtain ⟨h, e⟩ := ite_some e
      rw [Bool.and_eq_true] at h
      exact ⟨p, q, hx.dp s q1, hy.dp s q2, h.1, h.2, Option.some.inj e⟩
end

section
variable {M : Mt}
theorem map_some {α β : Type} {x : Option α} {f : α → β} {y : β} (h : x.map f = some y) : ∃ a, x = some a ∧ y = f a := by
  cases x with
  | none => cases h
  | some a => exact ⟨a, rfl, (Option.some.inj h).symm⟩
theorem eq_srv : Srv M .eq (fun x y H Q => rEq x y H Q ∨ rEqD M.K x y H Q) := by
  intro Z H x y dx dy o Q s hx hy e c
  obtain ⟨b, e', ho⟩ := map_some e
  subst ho
  have e : eqD dx dy = some b := e'
  unfold eqD at e
  cases q : eqS dx dy with
  | some b' =>
    rw [q] at e
    cases e
    obtain ⟨h1, h2⟩ := eqS_rp hx hy q
    exact .inl ⟨h1, by rw [h2]; exact c.val s rfl⟩
  | none =>
    rw [q] at e
    obtain ⟨p, r, h1, h2, h3, h4, h5⟩ := eqP_rp s hx hy e
    exact .inr ⟨p, r, h1, h2, h3, h4, by rw [h5]; exact c.val s rfl⟩
theorem ne_srv : Srv M .ne (fun x y H Q => rNe x y H Q ∨ rNeD M.K x y H Q) := by
  intro Z H x y dx dy o Q s hx hy e c
  obtain ⟨b, e', ho⟩ := map_some e
  subst ho
  have e : eqD dx dy = some b := e'
  unfold eqD at e
  cases q : eqS dx dy with
  | some b' =>
    rw [q] at e
    cases e
    obtain ⟨h1, h2⟩ := eqS_rp hx hy q
    exact .inl ⟨h1, by rw [h2]; exact c.val s rfl⟩
  | none =>
    rw [q] at e
    obtain ⟨p, r, h1, h2, h3, h4, h5⟩ := eqP_rp s hx hy e
    exact .inr ⟨p, r, h1, h2, h3, h4, by rw [h5]; exact c.val s rfl⟩
theorem cmpI_srv {p : Pr} {f : Int → Int → Bool} {g : Str → Str → Bool} (hp : ∀ x y, prim p [x, y] = cmpI x y f g) :
    Srv M p (fun x y H Q => rI0 (fun i j => .bl (f i j)) x y H Q ∨ (fun x y H Q => ∃ i j, x = V.str i ∧ y = V.str j ∧ Q (.bl (g i j)) H) x y H Q) := by
  intro Z H x y dx dy o Q s hx hy e c
  rw [hp] at e
  unfold cmpI at e
  split at e
  · cases ob_some e; exact .inl ⟨_, _, hx.int, hy.int, c.val s rfl⟩
  · cases ob_some e; exact .inr ⟨_, _, hx.str, hy.str, c.val s rfl⟩
  · cases e
theorem isND_some {x y : D} {f : Bool → Bool} {o : O} (h : isND x y f = some o) : y = .non ∧ ((x = .non ∧ o = .val (.bl (f true))) ∨ (x ≠ .non ∧ o = .val (.bl (f false)))) := by
  unfold isND at h
  split at h
  · split at h
    · exact ⟨rfl, .inl ⟨rfl, ob_some h⟩⟩
    · rename_i hn
      exact ⟨rfl, .inr ⟨fun e => hn e, ob_some h⟩⟩
  · cases h
theorem keyAll_flat {xs : List D} {vs : List V} {Z : Hp} : RpA M Z xs vs → xs.all flatD = true → vs.all flatV = true := by
  intro h hf
  induction xs generalizing vs with
  | nil => cases h; rfl
  | cons d ds ih =>
    obtain ⟨v, vs, rfl, h1, h2⟩ := h
    rw [List.all_cons, Bool.and_eq_true] at hf ⊢
    refine ⟨?_, ih h2 hf.2⟩
    cases d <;> first | (cases h1; rfl) | exact absurd hf.1 Bool.false_ne_true
theorem eqF_rp {Z H : Hp} {d e : D} {x y : V} (hx : RpW M Z H d x) (hy : RpW M Z H e y) (h1 : flatD d = true) (h2 : flatD e = true) : eqV x y = eqF d e := by
  cases d <;> cases e <;> first
    | exact absurd h1 Bool.false_ne_true
    | exact absurd h2 Bool.false_ne_true
    | (first | cases hx.non | cases hx.bl | cases hx.int | cases hx.str) <;> (first | cases hy.non | cases hy.bl | cases hy.int | cases hy.str) <;> rfl
theorem inF_rp {Z H : Hp} {d : D} {x : V} (hx : RpW M Z H d x) (h1 : flatD d = true) : ∀ {es : List D} {ys : List V}, RpA M Z es ys → es.all flatD = true → inV x ys = inF d es
  | [], _, h, _ => by cases h; rfl
  | e :: es, _, h, hf => by
    obtain ⟨v, vs, rfl, h2, h3⟩ := h
    rw [List.all_cons, Bool.and_eq_true] at hf
    have ih := inF_rp hx h1 h3 hf.2
    unfold inV inF at ih ⊢
    rw [List.any_cons, List.any_cons, ih, eqF_rp (RpW.of h2) hx hf.1 h1]
/-- in: all ways -/
def rInAll (K : PySem.W.Frag) (neg : Bool) : R2 := fun x y H Q => (fun x y H Q => ∃ (c : Nat) (z : Str), x = V.str ⟨#[c]⟩ ∧ y = V.str z ∧ Q (.bl (if neg then !decide (c ∈ z.cps.toList) else decide (c ∈ z.cps.toList))) H) x y H Q ∨
  (fun x y H Q => ∃ i j, x = V.str i ∧ y = V.str j ∧ Q (.bl (if neg then !(!(Builtin.Str.occurrences j i 0 j.length 1).isEmpty) else !(Builtin.Str.occurrences j i 0 j.length 1).isEmpty)) H) x y H Q ∨
  rIn K neg x y H Q ∨ rInA K neg x y H Q ∨ rInDc K neg x y H Q
theorem op_inAll {X : Cx} (hu : X.A.units + 65 < cLine) : OpR X (compareOp .In) (rInAll X.K false) := op_in_sign.or (op_in_str.or (op_in_seq.or ((op_inA hu).or (op_inDc hu))))
theorem op_notInAll {X : Cx} (hu : X.A.units + 65 < cLine) : OpR X (compareOp .NotIn) (rInAll X.K true) := op_notIn_sign.or (op_notin_str.or (op_notIn_seq.or ((op_notInA hu).or (op_notInDc hu))))
theorem inL_rp {Z H : Hp} {d y : D} {ys : List D} {x v : V} {b neg : Bool} {Q : VK} (s : Sub Z H) (hx : RpW M Z H d x) (hy : RpW M Z H y v) (he : seqOf y = some ys) (e : inL d ys = some b) (q : Q (.bl (if neg then !b else b)) H) :
    rIn M.K neg x v H Q ∨ rInA M.K neg x v H Q := by
  unfold inL at e
  split at e
  · rename_i hf
    rw [Bool.and_eq_true] at hf
    cases e
    obtain ⟨a, xs, rfl, h1, h2⟩ := hy.seq s he
    refine .inl ⟨a, xs, rfl, h1, ?_, keyAll_flat h2 hf.2, by rw [inF_rp hx hf.1 h2 hf.2]; exact q⟩
    cases d <;> first | (first | cases hx.non | cases hx.bl | cases hx.int | cases hx.str) <;> rfl | exact absurd hf.1 Bool.false_ne_true
  · unfold inP at e
    cases q1 : toPy d with
    | none => rw [q1] at e; cases e
    | some p =>
      cases q2 : toPys ys with
      | none => rw [q1, q2] at e; cases e
      | some ps =>
        rw [q1, q2] at e
        obtain ⟨h, e⟩ := ite_some e
        rw [Bool.and_eq_true] at h
        cases e
        refine .inr ⟨p, ps, hx.dp s q1, ?_, h.1, h.2, q⟩
        cases y with
        | lst zs => cases he; exact .inl (hy.dp s (by unfold toPy; rw [q2]; rfl))
        | tup zs => cases he; exact .inr (hy.dp s (by unfold toPy; rw [q2]; rfl))
        | _ => cases he
theorem isin_gen {Z H : Hp} {dx dy : D} {x y : V} {b neg : Bool} {Q : VK} (s : Sub Z H) (hx : RpW M Z H dx x) (hy : RpW M Z H dy y) (e : isinD dx dy = some b) (q : Q (.bl (if neg then !b else b)) H) : rInAll M.K neg x y H Q := by
  unfold isinD at e
  split at e
  · split at e
    · cases e; exact .inl ⟨_, _, hx.str, hy.str, q⟩
    · cases e; exact .inr (.inl ⟨_, _, hx.str, hy.str, q⟩)
    · cases e
  · rcases inL_rp s hx hy rfl e q with h | h
    · exact .inr (.inr (.inl h))
    · exact .inr (.inr (.inr (.inl h)))
  · rcases inL_rp s hx hy rfl e q with h | h
    · exact .inr (.inr (.inl h))
    · exact .inr (.inr (.inr (.inl h)))
  · obtain ⟨o, e2, rfl⟩ := Option.map_eq_some_iff.mp e
    obtain ⟨a, r, rfl, h1, h2⟩ := dget_rp s hy hx e2
    refine .inr (.inr (.inr (.inr ⟨a, r, rfl, h1, ?_⟩)))
    have : r.isSome = o.isSome := by
      cases o <;> cases r <;> first | rfl | exact (show False from h2).elim
    rw [this]
    exact q
theorem isin_srv : Srv M .isin (rInAll M.K false) := by
  intro Z H x y dx dy o Q s hx hy e c
  obtain ⟨b, e', ho⟩ := map_some e
  subst ho
  exact isin_gen s hx hy e' (c.val s rfl)
theorem notin_srv : Srv M .notin (rInAll M.K true) := by
  intro Z H x y dx dy o Q s hx hy e c
  obtain ⟨b, e', ho⟩ := map_some e
  subst ho
  exact isin_gen s hx hy e' (c.val s rfl)
theorem RpW.isnon {Z H : Hp} {d : D} {v : V} (h : RpW M Z H d v) (s : Sub Z H) (hd : d ≠ .non) : v ≠ .non := by
  intro e
  subst e
  cases hf : flatD d with
  | false => obtain ⟨a, e⟩ := h.isref s hf; cases e
  | true =>
    cases d with
    | non => exact hd rfl
    | bl _ => cases h.bl
    | int _ => cases h.int
    | str _ => cases h.str
    | _ => cases hf
theorem isN_srv : Srv M .isN (fun x y H Q => y = .non ∧ Q (.bl (decide (x = .non))) H) := by
  intro Z H x y dx dy o Q s hx hy e c
  obtain ⟨rfl, ⟨rfl, rfl⟩ | ⟨hn, rfl⟩⟩ := isND_some e
  · refine ⟨hy.non, ?_⟩
    cases hx.non
    exact c.val s rfl
  · refine ⟨hy.non, ?_⟩
    rw [decide_eq_false (hx.isnon s hn)]
    exact c.val s rfl
theorem notN_srv : Srv M .notN (fun x y H Q => y = .non ∧ Q (.bl (!decide (x = .non))) H) := by
  intro Z H x y dx dy o Q s hx hy e c
  obtain ⟨rfl, ⟨rfl, rfl⟩ | ⟨hn, rfl⟩⟩ := isND_some e
  · refine ⟨hy.non, ?_⟩
    cases hx.non
    exact c.val s rfl
  · refine ⟨hy.non, ?_⟩
    rw [decide_eq_false (hx.isnon s hn)]
    exact c.val s rfl
theorem cmp_ok {X : Cx} (hK : X.K = M.K) (hu : X.A.units + 65 < cLine) (p : Pr) (op : CmpOp) (h : cmpOf p = some op) : ∃ r, OpR X (compareOp op) r ∧ Srv M p r := by
  cases p <;> simp only [cmpOf, reduceCtorEq, Option.some.injEq] at h <;> subst h
  case eq => exact ⟨_, op_eq.or (op_eqD (by omega)), by rw [hK]; exact eq_srv⟩
  case ne => exact ⟨_, op_ne.or (op_neD (by omega)), by rw [hK]; exact ne_srv⟩
  case lt => exact ⟨_, op_lt.or op_lt_str, cmpI_srv fun _ _ => rfl⟩
  case le => exact ⟨_, op_le.or op_le_str, cmpI_srv fun _ _ => rfl⟩
  case gt => exact ⟨_, op_gt.or op_gt_str, cmpI_srv fun _ _ => rfl⟩
  case ge => exact ⟨_, op_ge.or op_ge_str, cmpI_srv fun _ _ => rfl⟩
  case isN => exact ⟨_, op_isN, isN_srv⟩
  case notN => exact ⟨_, op_notN, notN_srv⟩
  case isin => exact ⟨_, op_inAll hu, by rw [hK]; exact isin_srv⟩
  case notin => exact ⟨_, op_notInAll hu, by rw [hK]; exact notin_srv⟩
/-- a comparison's value is a truth -/
theorem cmp_bl {p : Pr} {op : CmpOp} (h : cmpOf p = some op) {x y : D} {o : O} (e : prim p [x, y] = some o) : ∃ b, o = .val (.bl b) := by
  cases p <;> simp only [cmpOf, reduceCtorEq] at h
  case eq => obtain ⟨b, _, rfl⟩ := map_some e; exact ⟨_, rfl⟩
  case ne => obtain ⟨b, _, rfl⟩ := map_some e; exact ⟨_, rfl⟩
  case isin => obtain ⟨b, _, rfl⟩ := map_some e; exact ⟨_, rfl⟩
  case notin => obtain ⟨b, _, rfl⟩ := map_some e; exact ⟨_, rfl⟩
  case isN => obtain ⟨_, ⟨_, e⟩ | ⟨_, e⟩⟩ := isND_some e <;> exact ⟨_, e⟩
  case notN => obtain ⟨_, ⟨_, e⟩ | ⟨_, e⟩⟩ := isND_some e <;> exact ⟨_, e⟩
  all_goals
    have e : cmpI x y _ _ = some o := e
    unfold cmpI at e
    split at e <;> first | exact ⟨_, ob_some e⟩ | cases e
end
end EV

namespace EV
open PyProof.Rows PySem L2 PySem.Spec

section
variable {M : Mt} {Z H Z' H' : Hp} {σ : L2.St} {ρ ρ' ρ1 ρ2 : Env} {φ φ' φ2 : Nat → List Addr} {P R : Addr → Prop}
theorem EOk.less (e : EOk M Z H σ ρ φ) (hl : ρ'.length = ρ.length) (h : ∀ i o, getS ρ' i = some o → getS ρ i = some o) : EOk M Z H σ ρ' φ :=
  ⟨e.sub, e.len.trans hl.symm, fun i o hi => e.hold i o (h i o hi), fun a ⟨i, o, hi, hm⟩ => e.out a ⟨i, o, h i o hi, hm⟩, fun i j o u a h1 h2 => e.dis i j o u a (h i o h1) (h j u h2)⟩
theorem Own.less {a : Addr} (h : ∀ i o, getS ρ' i = some o → getS ρ i = some o) (x : Own ρ' φ a) : Own ρ φ a := let ⟨i, o, hi, hm⟩ := x; ⟨i, o, h i o hi, hm⟩
theorem set_less {i : Nat} : ∀ j o, getS (setS ρ i none) j = some o → getS ρ j = some o := fun j o h => by
  rcases getS_set_some h with ⟨_, z⟩ | ⟨_, h⟩
  · cases z
  · exact h
theorem Own.alloc {a : Addr} (e : EOk M Z H σ ρ φ) (x : Own ρ φ a) : ∃ u, H a = some u := by
  obtain ⟨i, o, hi, hm⟩ := x
  obtain ⟨v, _, r⟩ := e.hold i o hi
  exact r.alloc a hm
/-- what is owned by others stands through a step -/
theorem EOk.through {Q : Addr → Prop} (e : EOk M Z H σ ρ φ) (st : Stp Z H P Z' H' Q) (sub : Sub Z' H') (d : ∀ a, Own ρ φ a → ¬ P a) : EOk M Z' H' σ ρ φ := by
  refine ⟨sub, e.len, fun i o hi => ?_, fun a ha => ?_, e.dis⟩
  · obtain ⟨v, h1, h2⟩ := e.hold i o hi
    exact ⟨v, h1, h2.keep st.zz fun a hm u q => st.ch a u q (d a ⟨i, o, hi, hm⟩)⟩
  · have h0 := e.out a ha
    cases q : Z' a with
    | none => rfl
    | some u =>
      rcases st.zn a (by rw [q]; exact fun z => nomatch z) with h | h | h
      · exact absurd h0 h
      · exact absurd h (d a ha)
      · obtain ⟨u, hu⟩ := ha.alloc e
        rw [hu] at h; cases h
/-- a slot set anew -/
theorem EOk.set {i : Nat} {o : O} {v : V} {f : List Addr} (e : EOk M Z H σ ρ φ) (r : RpO M Z H o v f) (hi : i < ρ.length) (hf : ∀ a ∈ f, Z a = none ∧ ∀ j u, j ≠ i → getS ρ j = some u → a ∉ φ j) :
    EOk M Z H (σ.set i (some v)) (setS ρ i (some o)) (fun j => if j = i then f else φ j) := by
  refine ⟨e.sub, by rw [List.length_set, setS_length]; exact e.len, fun j u hj => ?_, fun a ⟨j, u, hj, hm⟩ => ?_, fun j k u w a hj hk mj mk => ?_⟩
  · rcases getS_set_some hj with ⟨rfl, z⟩ | ⟨ne, hj⟩
    · cases z
      exact ⟨v, by rw [List.getElem?_set_self (by rw [e.len]; exact hi)], by simpa using r⟩
    · obtain ⟨w, h1, h2⟩ := e.hold j u hj
      refine ⟨w, by rw [List.getElem?_set_ne (Ne.symm ne)]; exact h1, ?_⟩
      simpa [ne] using h2
  · rcases getS_set_some hj with ⟨rfl, z⟩ | ⟨ne, hj⟩
    · simp at hm; exact (hf a hm).1
    · simp [ne] at hm; exact e.out a ⟨j, u, hj, hm⟩
  · rcases getS_set_some hj with ⟨ej, z⟩ | ⟨ne, hj⟩
    · rcases getS_set_some hk with ⟨ek, z'⟩ | ⟨ne', hk⟩
      · rw [ej, ek]
      · simp [ej] at mj; simp [ne'] at mk; exact absurd mk ((hf a mj).2 k w ne' hk)
    · rcases getS_set_some hk with ⟨ek, z'⟩ | ⟨ne', hk⟩
      · simp [ek] at mk; simp [ne] at mj; exact absurd mj ((hf a mk).2 j u ne hj)
      · simp [ne] at mj; simp [ne'] at mk; exact e.dis j k u w a hj hk mj mk
theorem Own.set {i : Nat} {o : Option O} {f : List Addr} {a : Addr} (x : Own (setS ρ i o) (fun j => if j = i then f else φ j) a) : a ∈ f ∨ Own ρ φ a := by
  obtain ⟨j, u, hj, hm⟩ := x
  rcases getS_set_some hj with ⟨rfl, z⟩ | ⟨ne, hj⟩
  · simp at hm; exact .inl hm
  · simp [ne] at hm; exact .inr ⟨j, u, hj, hm⟩

/-! ### arguments -/
/-- a step beside what it does not touch -/
theorem Stp.frame {F : Addr → Prop} (st : Stp Z H P Z' H' R) : Stp Z H (fun a => P a ∨ F a) Z' H' (fun a => R a ∨ F a) :=
  ⟨st.zz, fun a o h hn => st.ch a o h fun p => hn (.inl p), st.al, fun a h => (st.zn a h).imp_right (fun z => z.imp_left .inl), fun a h => h.elim (fun r => (st.ow a r).imp_left .inl) fun f => .inl (.inr f)⟩
/-- the arguments' values: by reference what stands in the slot; F: what none of the slots owns -/
def ArgR (M : Mt) (σ : L2.St) (Z H : Hp) : List E → List O → List V → List Addr → Prop
  | [], [], vs, F => vs = [] ∧ F = []
  | e :: es, d :: ds, vs, F => ∃ v ws f F', vs = v :: ws ∧ F = f ++ F' ∧ (match e with | .rf i => f = [] ∧ σ[i]? = some (some v) | _ => RpO M Z H d v f) ∧ (∀ a ∈ f, a ∉ F') ∧ ArgR M σ Z H es ds ws F'
  | _, _, _, _ => False
/-- the slots of what is handed by reference -/
def ArgS (σ : L2.St) : List E → List V → Prop
  | [], vs => vs = []
  | e :: es, vs => ∃ v ws, vs = v :: ws ∧ (match e with | .rf i => σ[i]? = some (some v) | _ => True) ∧ ArgS σ es ws
theorem ArgR.sl : ∀ {es : List E} {ds : List O} {vs : List V} {F : List Addr}, ArgR M σ Z H es ds vs F → ArgS σ es vs
  | [], [], _, _, h => h.1
  | [], _ :: _, _, _, h => h.elim
  | _ :: _, [], _, _, h => h.elim
  | e :: es, d :: ds, vs, F, h => by
    obtain ⟨v, ws, f, F', h1, h2, h3, h4, h5⟩ := h
    refine ⟨v, ws, h1, ?_, h5.sl⟩
    cases e <;> first | exact h3.2 | exact True.intro
variable {G : List D} {CL : List (List Nat)} {C : CallF}
theorem args_ok : ∀ (es : List E) {Z H : Hp} {ρ ρ' : Env} {φ : Nat → List Addr} {ds : List O} {K : List V → Hp → Prop}, EOk M Z H σ ρ φ → evA G CL C es ρ = some (ds, ρ') →
    (∀ vs Z' H' φ' F, Stp Z H (Own ρ φ) Z' H' (fun a => Own ρ' φ' a ∨ a ∈ F) → EOk M Z' H' σ ρ' φ' → ArgR M σ Z' H' es ds vs F → (∀ a ∈ F, Z' a = none ∧ ¬ Own ρ' φ' a) → K vs H') → nest (es.map (rdA M G CL C)) σ H K
  | [], Z, H, ρ, ρ', φ, ds, K, e, h, k => by
    simp only [evA, Option.some.injEq, Prod.mk.injEq] at h
    obtain ⟨rfl, rfl⟩ := h
    exact k [] Z H φ [] (Stp.refl.less fun a z => z.elim id fun z => by cases z) e ⟨rfl, rfl⟩ fun a z => by cases z
  | x :: es, Z, H, ρ, ρ', φ, ds, K, e, h, k => by
    by_cases hb : ∃ i, x = .rf i
    · obtain ⟨i, rfl⟩ := hb
      unfold evA at h
      simp only at h
      cases q0 : getS ρ i with
      | none => rw [q0] at h; cases h
      | some o0 =>
      rw [q0] at h
      simp only at h
      cases q2 : evA G CL C es ρ with
      | none => rw [q2] at h; cases h
      | some p2 =>
        obtain ⟨ds2, ρ2⟩ := p2
        rw [q2] at h
        simp only [Option.some.injEq, Prod.mk.injEq] at h
        obtain ⟨rfl, rfl⟩ := h
        obtain ⟨v, hv, _⟩ := e.hold i o0 q0
        refine ⟨v, hv, ?_⟩
        refine args_ok es e q2 fun vs Z3 H3 φ3 F3 st3 e3 ra hF => ?_
        exact k (v :: vs) Z3 H3 φ3 F3 st3 e3 ⟨v, vs, [], F3, rfl, rfl, ⟨rfl, hv⟩, fun a z => (by cases z), ra⟩ hF
    · by_cases hc : ∃ a, x = .fr a
      · obtain ⟨a, rfl⟩ := hc
        unfold evA at h
        simp only at h
        cases q1 : ev G CL C (.fr a) false ρ with
        | none => rw [q1] at h; cases h
        | some p =>
          obtain ⟨o, ρ1⟩ := p
          rw [q1] at h
          simp only at h
          cases q2 : evA G CL C es ρ1 with
          | none => rw [q2] at h; cases h
          | some p2 =>
            obtain ⟨ds2, ρ2⟩ := p2
            rw [q2] at h
            simp only [Option.some.injEq, Prod.mk.injEq] at h
            obtain ⟨rfl, rfl⟩ := h
            refine ⟨Z, ρ, φ, o, ρ1, e, q1, fun v Z1 H1 φ1 f st e1 r hf => ?_⟩
            refine args_ok es e1 q2 fun vs Z3 H3 φ3 F3 st3 e3 ra hF => ?_
            have al := r.alloc
            have k1 : ∀ a ∈ f, ∀ u, H1 a = some u → H3 a = some u := fun a ha u hu => st3.ch a u hu (hf a ha).2
            have no : ∀ a ∈ f, Z3 a = none ∧ ¬ (Own ρ2 φ3 a ∨ a ∈ F3) := fun a ha => by
              obtain ⟨u, hu⟩ := al a ha
              refine ⟨?_, fun z => ?_⟩
              · cases q : Z3 a with
                | none => rfl
                | some w =>
                  rcases st3.zn a (by rw [q]; exact fun z => nomatch z) with h | h | h
                  · exact absurd (hf a ha).1 h
                  · exact absurd h (hf a ha).2
                  · rw [hu] at h; cases h
              · rcases st3.ow a z with h | h
                · exact (hf a ha).2 h
                · rw [hu] at h; cases h
            refine k (v :: vs) Z3 H3 φ3 (f ++ F3) ((st.trans (st3.frame (F := (· ∈ f)))).less fun a z => ?_) e3 ⟨v, vs, f, F3, rfl, rfl, r.keep st3.zz k1, fun a ha hF' => (no a ha).2 (.inr hF'), ra⟩ fun a ha => ?_
            · rcases z with z | z
              · exact .inl (.inl z)
              · exact (List.mem_append.mp z).elim .inr fun z => .inl (.inr z)
            · rcases List.mem_append.mp ha with ha | ha
              · exact ⟨(no a ha).1, fun z => (no a ha).2 (.inl z)⟩
              · exact hF a ha
      · have hd : rdA M G CL C x = tM M (ev G CL C x false) := by
          cases x <;> first | rfl | exact absurd ⟨_, rfl⟩ hb | exact absurd ⟨_, rfl⟩ hc
        have h' : (match ev G CL C x false ρ with
            | none => none
            | some (o, ρ1) => match evA G CL C es ρ1 with
              | none => none
              | some (ds, ρ') => some (O.val o.frz :: ds, ρ')) = some (ds, ρ') := by
          cases x <;> first | exact h | exact absurd ⟨_, rfl⟩ hb | exact absurd ⟨_, rfl⟩ hc
        cases q1 : ev G CL C x false ρ with
        | none => rw [q1] at h'; cases h'
        | some p =>
          obtain ⟨o, ρ1⟩ := p
          rw [q1] at h'
          simp only at h'
          cases q2 : evA G CL C es ρ1 with
          | none => rw [q2] at h'; cases h'
          | some p2 =>
            obtain ⟨ds2, ρ2⟩ := p2
            rw [q2] at h'
            simp only [Option.some.injEq, Prod.mk.injEq] at h'
            obtain ⟨rfl, rfl⟩ := h'
            show nest (rdA M G CL C x :: es.map (rdA M G CL C)) σ H K
            rw [hd]
            refine ⟨Z, ρ, φ, o, ρ1, e, q1, fun v Z1 H1 φ1 f st e1 r hf => ?_⟩
            obtain ⟨Z2, st2, e2, rp⟩ := frozen st e1 r hf
            refine args_ok es e2 q2 fun vs Z3 H3 φ3 F3 st3 e3 ra hF => ?_
            refine k (v :: vs) Z3 H3 φ3 F3 (st2.trans st3) e3 ⟨v, vs, [], F3, rfl, rfl, ?_, fun a z => (by cases z), ra⟩ hF
            have rp3 : RpO M Z3 H3 (.val o.frz) v [] := ⟨rfl, Rp.mono st3.zz _ _ rp⟩
            cases x <;> first | exact rp3 | exact absurd ⟨_, rfl⟩ hb
theorem getS_map {os : List O} {i : Nat} : getS (os.map some) i = os[i]? := by
  induction os generalizing i with
  | nil => simp [getS]
  | cons o os ih => cases i <;> simp [getS, ih]
/-- one argument ahead -/
theorem EOk.cons {vs : List V} {os : List O} {o : O} {v : V} {f : List Addr} (e : EOk M Z H (vs.map some) (os.map some) φ) (r : RpO M Z H o v f) (hf : ∀ a ∈ f, Z a = none ∧ ¬ Own (os.map some) φ a) :
    EOk M Z H ((v :: vs).map some) ((o :: os).map some) (fun j => match j with | 0 => f | j + 1 => φ j) := by
  refine ⟨e.sub, by simpa using e.len, fun j u hj => ?_, fun a ⟨j, u, hj, hm⟩ => ?_, fun j k u w a hj hk mj mk => ?_⟩
  · cases j with
    | zero => simp [getS] at hj; subst hj; exact ⟨v, rfl, r⟩
    | succ j => obtain ⟨w, h1, h2⟩ := e.hold j u hj; exact ⟨w, by simpa using h1, h2⟩
  · cases j with
    | zero => exact (hf a hm).1
    | succ j => exact e.out a ⟨j, u, hj, hm⟩
  · cases j with
    | zero =>
      cases k with
      | zero => rfl
      | succ k => exact absurd ⟨k, w, hk, mk⟩ (hf a mj).2
    | succ j =>
      cases k with
      | zero => exact absurd ⟨j, u, hj, mj⟩ (hf a mk).2
      | succ k => rw [e.dis j k u w a hj hk mj mk]
theorem Own.cons {os : List O} {o : O} {f : List Addr} {a : Addr} (x : Own ((o :: os).map some) (fun j => match j with | 0 => f | j + 1 => φ j) a) : a ∈ f ∨ Own (os.map some) φ a := by
  obtain ⟨j, u, hj, hm⟩ := x
  cases j with
  | zero => exact .inl hm
  | succ j => exact .inr ⟨j, u, hj, hm⟩
theorem take_ok : ∀ (es : List E) {ds : List O} {vs : List V} {F : List Addr} {ρ1 ρ2 : Env} {os : List O}, ArgR M σ Z H es ds vs F → (∀ a ∈ F, Z a = none ∧ ¬ Own ρ1 φ a) → takeA es ds ρ1 = some (os, ρ2) → EOk M Z H σ ρ1 φ →
    ∃ φa, EOk M Z H (vs.map some) (os.map some) φa ∧ EOk M Z H σ ρ2 φ ∧ (∀ i o, getS ρ2 i = some o → getS ρ1 i = some o) ∧ (∀ a, Own (os.map some) φa a → (Own ρ1 φ a ∨ a ∈ F) ∧ ¬ Own ρ2 φ a)
  | [], [], vs, F, ρ1, ρ2, os, ha, hF, h, e => by
    cases h
    obtain ⟨rfl, rfl⟩ := ha
    exact ⟨fun _ => [], ⟨e.sub, rfl, fun i o h => by simp [getS] at h, fun a ⟨i, o, h, _⟩ => by simp [getS] at h, fun i j o u a h => by simp [getS] at h⟩, e, fun _ _ h => h, fun a ⟨i, o, h, _⟩ => by simp [getS] at h⟩
  | [], _ :: _, _, _, _, _, _, ha, _, _, _ => ha.elim
  | _ :: _, [], _, _, _, _, _, ha, _, _, _ => ha.elim
  | x :: es, d :: ds, vs, F, ρ1, ρ2, os, ha, hF, h, e => by
    obtain ⟨v, ws, f, F', rfl, rfl, hv, hd, ha⟩ := ha
    by_cases hb : ∃ i, x = .rf i
    · obtain ⟨i, rfl⟩ := hb
      obtain ⟨rfl, hv⟩ := hv
      rw [List.nil_append] at hF
      unfold takeA at h
      cases q0 : getS ρ1 i with
      | none => rw [q0] at h; cases h
      | some o =>
        rw [q0] at h
        simp only at h
        cases q1 : takeA es ds (setS ρ1 i none) with
        | none => rw [q1] at h; cases h
        | some p =>
          obtain ⟨os', ρ'⟩ := p
          rw [q1] at h
          simp only [Option.some.injEq, Prod.mk.injEq] at h
          obtain ⟨rfl, rfl⟩ := h
          have e1 : EOk M Z H σ (setS ρ1 i none) φ := e.less (setS_length _ _ _) set_less
          obtain ⟨φa, h1, h2, h3, h4⟩ := take_ok es ha (fun a z => ⟨(hF a z).1, fun w => (hF a z).2 (w.less set_less)⟩) q1 e1
          obtain ⟨v', hv', r⟩ := e.hold i o q0
          rw [hv] at hv'
          cases hv'
          have no : ∀ a, a ∈ φ i → ¬ Own (setS ρ1 i none) φ a := fun a hm ⟨j, u, hj, hm'⟩ => by
            rcases getS_set_some hj with ⟨_, z⟩ | ⟨ne, hj⟩
            · cases z
            · exact ne (e.dis j i u o a hj q0 hm' hm)
          refine ⟨_, h1.cons r fun a hm => ⟨e.out a ⟨i, o, q0, hm⟩, fun z => (h4 a z).1.elim (no a hm) fun w => (hF a w).2 ⟨i, o, q0, hm⟩⟩, h2, fun j u hj => set_less j u (h3 j u hj), fun a z => ?_⟩
          rcases z.cons with z | z
          · exact ⟨.inl ⟨i, o, q0, z⟩, fun w => no a z (w.less h3)⟩
          · exact ⟨(h4 a z).1.imp_left fun w => w.less set_less, (h4 a z).2⟩
    · have hv : RpO M Z H d v f := by cases x <;> first | exact hv | exact absurd ⟨_, rfl⟩ hb
      have h' : (match takeA es ds ρ1 with
          | none => none
          | some (os, ρ') => some (d :: os, ρ')) = some (os, ρ2) := by
        cases x <;> first | exact h | exact absurd ⟨_, rfl⟩ hb
      cases q1 : takeA es ds ρ1 with
      | none => rw [q1] at h'; cases h'
      | some p =>
        obtain ⟨os', ρ'⟩ := p
        rw [q1] at h'
        simp only [Option.some.injEq, Prod.mk.injEq] at h'
        obtain ⟨rfl, rfl⟩ := h'
        obtain ⟨φa, h1, h2, h3, h4⟩ := take_ok es ha (fun a z => hF a (List.mem_append_right _ z)) q1 e
        refine ⟨_, h1.cons hv (fun a hm => ⟨(hF a (List.mem_append_left _ hm)).1, fun z => (h4 a z).1.elim (hF a (List.mem_append_left _ hm)).2 (hd a hm)⟩), h2, h3, fun a z => ?_⟩
        rcases z.cons with z | z
        · exact ⟨.inr (List.mem_append_left _ z), fun w => (hF a (List.mem_append_left _ z)).2 (w.less h3)⟩
        · exact ⟨(h4 a z).1.imp_right (List.mem_append_right _), (h4 a z).2⟩
/-- the slots that are handed back -/
def maskE : List E → List (Option O) → List (Option O)
  | .rf _ :: es, o :: os => o :: maskE es os
  | _ :: es, _ :: os => none :: maskE es os
  | _, _ => []
theorem give_ok : ∀ (es : List E) {vs : List V} {ps : List (Option O)} {ρ2 : Env} {φ2 φp : Nat → List Addr}, ArgS σ es vs → EOk M Z' H' σ ρ2 φ2 → EOk M Z' H' (vs.map some) (maskE es ps) φp →
    (∀ a, Own (maskE es ps) φp a → ¬ Own ρ2 φ2 a) → ∃ φ3, EOk M Z' H' σ (giveA es ps ρ2) φ3 ∧ ∀ a, Own (giveA es ps ρ2) φ3 a → Own ρ2 φ2 a ∨ Own (maskE es ps) φp a
  | [], vs, ps, ρ2, φ2, φp, ha, e, ep, d => by
    cases ps <;> exact ⟨φ2, e, fun a h => .inl h⟩
  | x :: es, vs, ps, ρ2, φ2, φp, ha, e, ep, d => by
    obtain ⟨v, ws, rfl, hv, ha⟩ := ha
    cases ps with
    | nil => cases x <;> exact ⟨φ2, e, fun a h => .inl h⟩
    | cons o ps =>
      by_cases hb : ∃ i, x = .rf i
      · obtain ⟨i, rfl⟩ := hb
        have hv : σ[i]? = some (some v) := hv
        have ep' : EOk M Z' H' (ws.map some) (maskE es ps) (fun j => φp (j + 1)) :=
          ⟨ep.sub, by have := ep.len; simpa [maskE] using this, fun j u hj => by
            obtain ⟨w, h1, h2⟩ := ep.hold (j + 1) u hj
            exact ⟨w, by simpa using h1, h2⟩, fun a ⟨j, u, hj, hm⟩ => ep.out a ⟨j + 1, u, hj, hm⟩, fun j k u w a hj hk mj mk => by
            have := ep.dis (j + 1) (k + 1) u w a hj hk mj mk
            omega⟩
        cases o with
        | none =>
          have e1 : EOk M Z' H' σ (setS ρ2 i none) φ2 := e.less (setS_length _ _ _) set_less
          obtain ⟨φ3, h1, h2⟩ := give_ok es ha e1 ep' fun a ⟨j, u, hj, hm⟩ z => d a ⟨j + 1, u, hj, hm⟩ (z.less set_less)
          refine ⟨φ3, h1, fun a z => ?_⟩
          rcases h2 a z with z | ⟨j, u, hj, hm⟩
          · exact .inl (z.less set_less)
          · exact .inr ⟨j + 1, u, hj, hm⟩
        | some o =>
          obtain ⟨v', hv', r⟩ := ep.hold 0 o rfl
          simp at hv'
          subst hv'
          have hi : i < ρ2.length := by
            rw [← e.len]
            exact (List.getElem?_eq_some_iff.mp hv).1
          have e1 := e.set (i := i) r hi fun a hm => ⟨ep.out a ⟨0, o, rfl, hm⟩, fun j u ne hj hm' => d a ⟨0, o, rfl, hm⟩ ⟨j, u, hj, hm'⟩⟩
          have hs : σ.set i (some v) = σ := by
            apply List.ext_getElem?
            intro j
            by_cases ej : i = j
            · subst ej
              rw [List.getElem?_set_self (by rw [e.len]; exact hi), hv]
            · rw [List.getElem?_set_ne ej]
          rw [hs] at e1
          obtain ⟨φ3, h1, h2⟩ := give_ok es ha e1 ep' fun a ⟨j, u, hj, hm⟩ z => by
            rcases z.set with z | z
            · have := ep.dis (j + 1) 0 u o a hj rfl hm z
              omega
            · exact d a ⟨j + 1, u, hj, hm⟩ z
          refine ⟨φ3, h1, fun a z => ?_⟩
          rcases h2 a z with z | ⟨j, u, hj, hm⟩
          · rcases z.set with z | z
            · exact .inr ⟨0, o, rfl, z⟩
            · exact .inl z
          · exact .inr ⟨j + 1, u, hj, hm⟩
      · have hm : maskE (x :: es) (o :: ps) = none :: maskE es ps := by cases x <;> first | rfl | exact absurd ⟨_, rfl⟩ hb
        have hg : giveA (x :: es) (o :: ps) ρ2 = giveA es ps ρ2 := by cases x <;> first | rfl | exact absurd ⟨_, rfl⟩ hb
        rw [hm] at ep d ⊢
        rw [hg]
        have ep' : EOk M Z' H' (ws.map some) (maskE es ps) (fun j => φp (j + 1)) :=
          ⟨ep.sub, by have := ep.len; simpa [maskE] using this, fun j u hj => by
            obtain ⟨w, h1, h2⟩ := ep.hold (j + 1) u hj
            exact ⟨w, by simpa using h1, h2⟩, fun a ⟨j, u, hj, hm⟩ => ep.out a ⟨j + 1, u, hj, hm⟩, fun j k u w a hj hk mj mk => by
            have := ep.dis (j + 1) (k + 1) u w a hj hk mj mk
            omega⟩
        obtain ⟨φ3, h1, h2⟩ := give_ok es ha e ep' fun a ⟨j, u, hj, hm⟩ z => d a ⟨j + 1, u, hj, hm⟩ z
        refine ⟨φ3, h1, fun a z => ?_⟩
        rcases h2 a z with z | ⟨j, u, hj, hm⟩
        · exact .inl z
        · exact .inr ⟨j + 1, u, hj, hm⟩
/-- what a def promises: the parameters that are told in refs stand in their slots at the end -/
def maskR : List Bool → List (Option O) → List (Option O)
  | true :: bs, o :: os => o :: maskR bs os
  | false :: bs, _ :: os => none :: maskR bs os
  | _, _ => []
def spF (M : Mt) (C : CallF) (f : Nat) (refs : List Bool) : Sp := fun vs H Q _ => ∃ Z os φ r ps, vs.length = refs.length ∧ EOk M Z H (vs.map some) (os.map some) φ ∧ C f os = some (r, ps) ∧ ps.length = refs.length ∧
  Post M Z H (os.map some) φ (vs.map some) r (maskR refs ps) Q
/-- the call's own slots are told by reference -/
def refsOk : List E → List Bool → Bool
  | [], [] => true
  | .rf _ :: es, b :: bs => b && refsOk es bs
  | _ :: es, _ :: bs => refsOk es bs
  | _, _ => false
theorem refsOk_len : ∀ {es : List E} {bs : List Bool}, refsOk es bs = true → es.length = bs.length
  | [], [], _ => rfl
  | [], _ :: _, h => by cases h
  | x :: es, [], h => by cases x <;> cases h
  | x :: es, b :: bs, h => by
    have h' : refsOk es bs = true := by
      cases x <;> first | exact h | (unfold refsOk at h; rw [Bool.and_eq_true] at h; exact h.2)
    simp [refsOk_len h']
theorem refsOk_mask : ∀ {es : List E} {bs : List Bool} {ps : List (Option O)}, refsOk es bs = true → ps.length = bs.length → (maskE es ps).length = (maskR bs ps).length ∧ ∀ i o, getS (maskE es ps) i = some o → getS (maskR bs ps) i = some o
  | [], [], [], _, _ => ⟨rfl, fun _ _ h => h⟩
  | [], [], _ :: _, _, h => by cases h
  | [], _ :: _, _, h, _ => by cases h
  | x :: es, [], _, h, _ => by cases x <;> cases h
  | x :: es, b :: bs, [], h, hl => by cases hl
  | x :: es, b :: bs, p :: ps, h, hl => by
    have hl' : ps.length = bs.length := by simpa using hl
    by_cases hb : ∃ i, x = .rf i
    · obtain ⟨i, rfl⟩ := hb
      unfold refsOk at h
      rw [Bool.and_eq_true] at h
      obtain ⟨rfl, h⟩ := h
      obtain ⟨h1, h2⟩ := refsOk_mask h hl'
      refine ⟨by simp [maskE, maskR, h1], fun i o hi => ?_⟩
      cases i with
      | zero => exact hi
      | succ i => exact h2 i o hi
    · have h : refsOk es bs = true := by cases x <;> first | exact h | exact absurd ⟨_, rfl⟩ hb
      have hm : maskE (x :: es) (p :: ps) = none :: maskE es ps := by cases x <;> first | rfl | exact absurd ⟨_, rfl⟩ hb
      obtain ⟨h1, h2⟩ := refsOk_mask h hl'
      rw [hm]
      refine ⟨by cases b <;> simp [maskR, h1], fun i o hi => ?_⟩
      cases i with
      | zero => simp [getS] at hi
      | succ i => cases b <;> exact h2 i o hi
theorem ArgS.len : ∀ {es : List E} {vs : List V}, ArgS σ es vs → vs.length = es.length
  | [], _, h => by cases h; rfl
  | e :: es, vs, h => by
    obtain ⟨v, ws, rfl, _, h3⟩ := h
    simp [h3.len]
/-- a call's reading -/
theorem call_ok {es : List E} {refs : List Bool} {f : Nat} {ds : List O} {os : List O} {r : O} {ps : List (Option O)} {Q : VK} {E : XK} {ρ0 : Env} {φ0 : Nat → List Addr} {Z0 H0 : Hp} (e : EOk M Z0 H0 σ ρ0 φ0) (h1 : evA G CL C es ρ0 = some (ds, ρ1)) (h2 : takeA es ds ρ1 = some (os, ρ2)) (h3 : C f os = some (r, ps))
    (hr : refsOk es refs = true) (hp : ps.length = refs.length) (q : Post M Z0 H0 ρ0 φ0 σ r (giveA es ps ρ2) Q) : nest (es.map (rdA M G CL C)) σ H0 (fun vs H1 => spF M C f refs vs H1 Q E) := by
  refine args_ok es e h1 fun vs Z1 H1 φ1 F st1 e1 ra0 hF => ?_
  have ra := ra0.sl
  obtain ⟨φa, a1, a2, a3, a4⟩ := take_ok es ra0 hF h2 e1
  refine ⟨Z1, os, φa, r, ps, ra.len.trans (refsOk_len hr), a1, h3, hp, fun v Z' H' φ' f st e' rr hf => ?_⟩
  obtain ⟨m1, m2⟩ := refsOk_mask hr hp
  have ep : EOk M Z' H' (vs.map some) (maskE es ps) φ' := e'.less m1 m2
  have eo : EOk M Z' H' σ ρ2 φ1 := a2.through st e'.sub fun a z w => (a4 a w).2 z
  -- what comes back is not the caller's other
  have ds' : ∀ a, Own (maskR refs ps) φ' a ∨ a ∈ f → ¬ Own ρ2 φ1 a := fun a z w => by
    rcases st.ow a z with z | z
    · exact (a4 a z).2 w
    · obtain ⟨u, hu⟩ := w.alloc a2
      rw [hu] at z; cases z
  obtain ⟨φ3, g1, g2⟩ := give_ok es ra eo ep fun a z => ds' a (.inl (z.less m2))
  refine q v Z' H' φ3 f (st1.trans ⟨st.zz, fun a o h hn => st.ch a o h fun z => hn (a4 a z).1, st.al, fun a h => (st.zn a h).elim .inl fun z => .inr (z.elim (fun z => .inl (a4 a z).1) .inr), fun a z => ?_⟩) g1 rr fun a ha => ⟨(hf a ha).1, fun z => ?_⟩
  · have back : Own (maskR refs ps) φ' a ∨ a ∈ f → (Own ρ1 φ1 a ∨ a ∈ F) ∨ H1 a = none := fun z => (st.ow a z).imp_left fun z => (a4 a z).1
    rcases z with z | z
    · rcases g2 a z with z | z
      · exact .inl (.inl (z.less a3))
      · exact back (.inl (z.less m2))
    · exact back (.inr z)
  · rcases g2 a z with z | z
    · exact ds' a (.inr ha) z
    · exact (hf a ha).2 (z.less m2)
theorem EOk.tail {vs : List V} {v : V} {o : Option O} {ρ : Env} (e : EOk M Z H ((v :: vs).map some) (o :: ρ) φ) : EOk M Z H (vs.map some) ρ (fun j => φ (j + 1)) :=
  ⟨e.sub, by have := e.len; simpa using this, fun j u hj => by
    obtain ⟨w, h1, h2⟩ := e.hold (j + 1) u hj
    exact ⟨w, by simpa using h1, h2⟩, fun a ⟨j, u, hj, hm⟩ => e.out a ⟨j + 1, u, hj, hm⟩, fun j k u w a hj hk mj mk => by
    have := e.dis (j + 1) (k + 1) u w a hj hk mj mk
    omega⟩
theorem Own.tail {o : Option O} {ρ : Env} {a : Addr} (x : Own ρ (fun j => φ (j + 1)) a) : Own (o :: ρ) φ a := let ⟨j, u, hj, hm⟩ := x; ⟨j + 1, u, hj, hm⟩
/-- a call with a value ahead of the written arguments -/
theorem callH_ok {es : List E} {refs : List Bool} {f : Nat} {ds : List O} {os : List O} {r : O} {ps : List (Option O)} {Q : VK} {E : XK} {ρ0 : Env} {φ0 : Nat → List Addr} {Z0 H0 : Hp} {d0 : D} {v0 : V} (e : EOk M Z0 H0 σ ρ0 φ0) (r0 : Rp M Z0 d0 v0) (h1 : evA G CL C es ρ0 = some (ds, ρ1)) (h2 : takeA es ds ρ1 = some (os, ρ2)) (h3 : C f (.val d0 :: os) = some (r, ps))
    (hr : refsOk es refs = true) (hp : ps.length = refs.length + 1) (q : Post M Z0 H0 ρ0 φ0 σ r (giveA es ps.tail ρ2) Q) : nest (es.map (rdA M G CL C)) σ H0 (fun vs H1 => spF M C f (false :: refs) (v0 :: vs) H1 Q E) := by
  refine args_ok es e h1 fun vs Z1 H1 φ1 F st1 e1 ra0 hF => ?_
  have ra := ra0.sl
  obtain ⟨φa, a1, a2, a3, a4⟩ := take_ok es ra0 hF h2 e1
  match ps, hp, h3, q with
  | p0 :: ps, hp, h3, q =>
  have hp : ps.length = refs.length := by simpa using hp
  have b1 := a1.cons (f := []) (o := .val d0) (v := v0) ⟨rfl, Rp.mono st1.zz _ _ r0⟩ (fun a ha => absurd ha (by simp))
  have b4 : ∀ a, Own ((O.val d0 :: os).map some) (fun j => match j with | 0 => [] | j + 1 => φa j) a → (Own ρ1 φ1 a ∨ a ∈ F) ∧ ¬ Own ρ2 φ1 a := fun a z => by
    rcases z.cons with z | z
    · cases z
    · exact a4 a z
  refine ⟨Z1, .val d0 :: os, _, r, p0 :: ps, by simp [ra.len, refsOk_len hr], b1, h3, by simp [hp], fun v Z' H' φ' f st e' rr hf => ?_⟩
  obtain ⟨m1, m2⟩ := refsOk_mask hr hp
  have e'' : EOk M Z' H' (vs.map some) (maskR refs ps) (fun j => φ' (j + 1)) := e'.tail
  have ep : EOk M Z' H' (vs.map some) (maskE es ps) (fun j => φ' (j + 1)) := e''.less m1 m2
  have eo : EOk M Z' H' σ ρ2 φ1 := a2.through st e'.sub fun a z w => (b4 a w).2 z
  have ds' : ∀ a, Own (maskR (false :: refs) (p0 :: ps)) φ' a ∨ a ∈ f → ¬ Own ρ2 φ1 a := fun a z w => by
    rcases st.ow a z with z | z
    · exact (b4 a z).2 w
    · obtain ⟨u, hu⟩ := w.alloc a2
      rw [hu] at z; cases z
  have up : ∀ a, Own (maskE es ps) (fun j => φ' (j + 1)) a → Own (maskR (false :: refs) (p0 :: ps)) φ' a := fun a z => (z.less m2).tail
  obtain ⟨φ3, g1, g2⟩ := give_ok es ra eo ep fun a z => ds' a (.inl (up a z))
  refine q v Z' H' φ3 f (st1.trans ⟨st.zz, fun a o h hn => st.ch a o h fun z => hn (b4 a z).1, st.al, fun a h => (st.zn a h).elim .inl fun z => .inr (z.elim (fun z => .inl (b4 a z).1) .inr), fun a z => ?_⟩) g1 rr fun a ha => ⟨(hf a ha).1, fun z => ?_⟩
  · have back : Own (maskR (false :: refs) (p0 :: ps)) φ' a ∨ a ∈ f → (Own ρ1 φ1 a ∨ a ∈ F) ∨ H1 a = none := fun z => (st.ow a z).imp_left fun z => (b4 a z).1
    rcases z with z | z
    · rcases g2 a z with z | z
      · exact .inl (.inl (z.less a3))
      · exact back (.inl (up a z))
    · exact back (.inr z)
  · rcases g2 a z with z | z
    · exact ds' a (.inr ha) z
    · exact (hf a ha).2 (up a z)
end
end EV

namespace EV
open PyProof.Rows PySem L2 PySem.Spec

/-! ### the text's names -/
structure FnS where
  nm : Str
  meth : Bool
  cls : Nat
  ps : List Str
  refs : List Bool
structure Stat where
  glb : List Str
  fns : List FnS
  fnm : List Str
  cnm : List Str
structure Sc where
  N : List Str
  sc : Scope
  fnB : Str → Bool
  fx : List Nat
def okName (x : Str) : Bool := !(x == ("__debug__" : Str)) && !(x == ("__classdict__" : Str)) && !(x == ("__name__" : Str))
def vis (s : Sc) (i : Nat) (x : Str) : Bool := decide (s.N[i]? = some x) && okName x && (match s.sc.names.lookup x with | some .local => true | some .cell => true | some .free => true | _ => false)
def loc (s : Sc) (i : Nat) (x : Str) : Bool := decide (s.N[i]? = some x) && (match s.sc.names.lookup x with | some .local => true | some .cell => s.fnB x | _ => false) && !s.fx.contains i
def gl (s : Sc) (x : Str) : Bool := okName x && (match s.sc.names.lookup x with | some .globalImplicit => true | _ => false)
def notStar : Expr → Bool
  | .Starred _ _ => false
  | _ => true
def notSlice : Expr → Bool
  | .Slice _ _ _ _ => false
  | _ => true
/-- its truth is its value's -/
def okTruth : Expr → Bool
  | .UnaryOp .Not _ _ => false
  | .BoolOp _ _ _ => false
  | .IfExp _ _ _ _ => false
  | .Compare _ _ _ _ => false
  | _ => true
def okBase : Expr → Bool
  | .Call (.Name x _) [] [] _ => x != ("super" : Str)
  | _ => true
def notSet : Expr → Bool
  | .Set _ _ _ => false
  | _ => true
def biOf : Pr → Option Str
  | .len => some "len" | .sum => some "sum" | .all => some "all" | .any => some "any" | .min2 => some "min" | .max2 => some "max" | .sorted => some "sorted" | _ => none
def tyOf : Pr → Option Str
  | .int => some "int" | .str => some "str" | .list => some "list" | .tuple => some "tuple" | .tupleL => some "tuple" | _ => none
def meOf : Pr → Option Str
  | .join => some "join" | .split => some "split" | .sindex => some "index" | .get1 => some "get" | _ => none
def tyNm : Nat → Option Str
  | 0 => some "str" | 1 => some "int" | 2 => some "tuple" | 3 => some "list" | 4 => some "bool" | 5 => some "dict" | _ => none
def bltNames : List Str := ["len", "sum", "all", "any", "min", "max", "int", "str", "list", "tuple", "bool", "dict", "isinstance", "range", "enumerate", "zip", "reversed", "sorted"]
def mLit : D → Const → Bool
  | .non, .none => true
  | .bl b, .bool c => b == c
  | .int i, .int j => decide (i = j)
  | .str x, .str y => decide (x = y)
  | _, _ => false
def notLc : Expr → Bool
  | .ListComp _ _ _ _ => false
  | .SetComp _ _ _ _ => false
  | .DictComp _ _ _ _ _ => false
  | _ => true
def notTup : Expr → Bool
  | .Tuple _ _ _ => false
  | _ => true
def augOf : Pr → Option Operator
  | .add => some .Add
  | .sub => some .Sub
  | _ => none
def nBw : E → Bool
  | .bw _ => false
  | _ => true
def opShape (T : Stat) (s : Sc) (p : Pr) (es : List E) : Expr → Option (List Expr)
  | .BinOp a op b _ => if binOf p = some op then some [a, b] else none
  | .UnaryOp .USub a _ => if p = .neg then some [a] else none
  | .Compare a [op] [b] _ => if cmpOf p = some op ∧ behindInMarks op b = false then some [a, b] else none
  | .Subscript a b _ => match b with
    | .Slice lo hi none _ => match p, lo, hi with
      | .slc true true, some l, some h => if es.tail.all nBw = true then some [a, l, h] else none
      | .slc true false, some l, none => if es.tail.all nBw = true then some [a, l] else none
      | .slc false true, none, some h => if es.tail.all nBw = true then some [a, h] else none
      | .slc false false, none, none => some [a]
      | _, _, _ => none
    | _ => if p = .idx ∧ notSlice b = true then some [a, b] else none
  | .Attribute a f _ => match p with
    | .fld n => if T.fnm[n]? = some f ∧ okBase a = true then some [a] else none
    | _ => none
  | .Call (.Name x _) [a] [] _ => if notStar a = true ∧ gl s x = true ∧ (biOf p = some x ∨ tyOf p = some x) ∧ x ≠ "min" ∧ x ≠ "max" then some [a] else none
  | .Call (.Name x _) [a, b] [] _ => if notStar a = true ∧ notStar b = true ∧ gl s x = true then
      match p, b with
      | .min2, _ => if x = "min" then some [a, b] else none
      | .max2, _ => if x = "max" then some [a, b] else none
      | .isi [t], .Name y _ => if x = "isinstance" ∧ gl s y = true ∧ ((tyNm t = some y) ∨ (100 ≤ t ∧ T.cnm[t - 100]? = some y)) then some [a] else none
      | _, _ => none
    else none
  | _ => none
/-- a method's receiver and operands -/
def mopShape (p : Pr) : Expr → Option (Expr × List Expr)
  | .Call (.Attribute o m apos) [a] [] cpos => if meOf p = some m ∧ okBase o = true ∧ (apos.endLine == cpos.line) = true ∧ notStar a = true then some (o, [a]) else none
  | .Call (.Attribute o m apos) [a, b] [] cpos => if p = .get2 ∧ m = "get" ∧ okBase o = true ∧ (apos.endLine == cpos.line) = true ∧ notStar a = true ∧ notStar b = true then some (o, [a, b]) else none
  | .Call (.Attribute o m apos) [] [] cpos => if p = .upper ∧ m = "upper" ∧ okBase o = true ∧ (apos.endLine == cpos.line) = true then some (o, []) else none
  | _ => none
def mTgs (s : Sc) : List Nat → List Expr → Bool
  | [], [] => true
  | i :: is, .Name x _ :: es => loc s i x && mTgs s is es
  | _, _ => false
def mTg (s : Sc) : Tg → Expr → Bool
  | .one i, .Name x _ => loc s i x
  | .many is, .Tuple es _ _ => mTgs s is es
  | _, _ => false
def tgNames : Expr → List Str
  | .Name x _ => [x]
  | .Tuple es _ _ => es.filterMap fun | .Name x _ => some x | _ => none
  | _ => []
/-- what is walked -/
def itShape (s : Sc) (tg : Expr) (k : ItK) (e : Expr) : Option (List Expr) := match k with
  | .plain => if notSet e = true then some [e] else none
  | .rng1 => match e with
    | .Call (.Name x _) [a] [] _ => if x = "range" ∧ gl s x = true ∧ notStar a = true then some [a] else none
    | _ => none
  | .rng2 => match e with
    | .Call (.Name x _) [a, b] [] _ => if x = "range" ∧ gl s x = true ∧ notStar a = true ∧ notStar b = true then some [a, b] else none
    | _ => none
  | .enum => match tg, e with
    | .Tuple _ _ _, .Call (.Name x _) [a] [] _ => if x = "enumerate" ∧ gl s x = true ∧ notStar a = true then some [a] else none
    | _, _ => none
  | .zip => match tg, e with
    | .Tuple _ _ _, .Call (.Name x _) [a, b] [] _ => if x = "zip" ∧ gl s x = true ∧ notStar a = true ∧ notStar b = true then some [a, b] else none
    | _, _ => none
  | .rev => match e with
    | .Call (.Name x _) [a] [] _ => if x = "reversed" ∧ gl s x = true ∧ notStar a = true then some [a] else none
    | _ => none
  | _ => none
def blkSc (s : Sc) (scope : Scope) : Sc := { N := s.N, sc := relS scope s.sc, fnB := fun x => scope.names.lookup x == some .cell, fx := s.fx }
mutual
def mE (T : Stat) : E → Sc → Expr → Bool
  | .fail, _, _ => true
  | .lit d, _, e => match e with
    | .Constant c _ _ => mLit d c
    | _ => false
  | .var i, s, e => match e with
    | .Name x _ => vis s i x
    | _ => false
  | .mv i, s, e => match e with
    | .Name x _ => vis s i x && !s.fx.contains i
    | _ => false
  | .sh i, s, e => match e with
    | .Name x _ => vis s i x
    | _ => false
  | .bw i, s, e => match e with
    | .Name x _ => vis s i x
    | _ => false
  | .rf _, _, _ => false
  | .fr a, s, e => mE T a s e
  | .glob g, s, e => match e with
    | .Name x _ => gl s x && decide (T.glb[g]? = some x)
    | _ => false
  | .op p es, s, e => match opShape T s p es e with
    | some xs => mEs T es s xs
    | none => false
  | .mop p o es, s, e => match mopShape p e with
    | some (x, xs) => mE T o s x && mEs T es s xs
    | none => false
  | .tup es, s, e => match e with
    | .Tuple xs _ _ => xs.all notStar && mEs T es s xs
    | _ => false
  | .lst es, s, e => match e with
    | .List xs _ => xs.all notStar && mEs T es s xs
    | _ => false
  | .dct0 _, _, e => match e with
    | .Dict [] [] _ => true
    | _ => false
  | .and a b, s, e => match e with
    | .BoolOp .And (x :: y :: r) pos => mE T a s x && mE T b s (match r with | [] => y | _ => .BoolOp .And (y :: r) pos)
    | _ => false
  | .or a b, s, e => match e with
    | .BoolOp .Or (x :: y :: r) pos => mE T a s x && mE T b s (match r with | [] => y | _ => .BoolOp .Or (y :: r) pos)
    | _ => false
  | .not a, s, e => match e with
    | .UnaryOp .Not x _ => mE T a s x
    | _ => false
  | .ite c a b, s, e => match e with
    | .IfExp x y z _ => mE T c s x && mE T a s y && mE T b s z
    | _ => false
  | .cmp2 p q a b c, s, e => match e with
    | .Compare x [o1, o2] [y, z] _ => decide (cmpOf p = some o1) && decide (cmpOf q = some o2) && !behindInMarks o2 z && mE T a s x && mE T b s y && mE T c s z
    | _ => false
  | .call f es, s, e => match e, T.fns[f]? with
    | .Call (.Name x _) xs [] _, some F => !F.meth && decide (F.nm = x) && gl s x && xs.all notStar && refsOk es F.refs && mAs T es s xs
    | _, _ => false
  | .meth f o es, s, e => match e, T.fns[f]? with
    | .Call (.Attribute y m apos) xs [] pos, some F => F.meth && decide (F.nm = m) && okBase y && (apos.endLine == pos.line) && decide (xs.length < 29) && xs.all notStar && (match F.refs with | false :: r => refsOk es r | _ => false) && mE T o s y && mAs T es s xs
    | _, _ => false
  | .new c es, s, e => match e with
    | .Call (.Name x _) (y :: xs) [] _ => decide (T.cnm[c]? = some x) && gl s x && (y :: xs).all notStar && mEs T es s (y :: xs)
    | _ => false
  | .pop i, s, e => match e with
    | .Call (.Attribute (.Name x _) m apos) [] [] cpos => decide (m = "pop") && vis s i x && (apos.endLine == cpos.line)
    | _ => false
  | .popAt i a, s, e => match e with
    | .Call (.Attribute (.Name x _) m apos) [y] [] cpos => decide (m = "pop") && vis s i x && (apos.endLine == cpos.line) && notStar y && mE T a s y
    | _ => false
  | .comp tg k es cs a, s, e => match e with
    | .ListComp elt [⟨tgt, iter, ifs, n⟩] scope _ => n == 0 && (match itShape s tgt k iter with
        | some xs => mEs T es s xs
        | none => false) && notSet iter && blkC s.N s.sc scope ((tgNames tgt).zip tg.slots) && mTg (blkSc s scope) tg tgt && (cs.length ≤ 1) && mEs T cs (blkSc s scope) ifs && mE T a (blkSc s scope) elt
    | _ => false
  | .frz a, s, e => okTruth e && mE T a s e
  | .dctOf _ es, s, e => match e with
    | .Call (.Name x _) [a] [] _ => decide (x = "dict") && gl s x && notStar a && mEs T es s [a]
    | _ => false
def mEs (T : Stat) : List E → Sc → List Expr → Bool
  | [], _, xs => match xs with
    | [] => true
    | _ => false
  | e :: es, s, xs => match xs with
    | x :: xs => mE T e s x && mEs T es s xs
    | [] => false
/-- arguments: by reference a name -/
def mAs (T : Stat) : List E → Sc → List Expr → Bool
  | [], _, xs => match xs with
    | [] => true
    | _ => false
  | e :: es, s, xs => match xs with
    | x :: xs => (match e with
      | .rf i => (match x with
        | .Name y _ => vis s i y
        | _ => false)
      | _ => mE T e s x) && mAs T es s xs
    | [] => false
end
def kLocal (s : Sc) (x : Str) : Bool := match s.sc.names.lookup x with
  | some .local => true
  | _ => false
def isFun (s : Sc) : Bool := match s.sc.kind with
  | .function => true
  | _ => false
/-- x = [..] on one line -/
def lcOk (s : Sc) (x : Str) (p : Pos) : Expr → Bool
  | .ListComp _ _ scope q => isFun s && kLocal s x && (p.line == q.line) && !(scope.names.any fun (n, k) => n == x && (k == .local || k == .cell))
  | _ => false
/-- x = [..] where x is a cell: nothing is swapped -/
def lcCell (s : Sc) (x : Str) : Expr → Bool
  | .ListComp _ _ _ _ => match s.sc.names.lookup x with
    | some .cell => true
    | _ => false
  | _ => false
def isComp : E → Bool
  | .comp _ _ _ _ _ => true
  | .frz (.comp _ _ _ _ _) => true
  | _ => false
/-- a, b = x, y, stored from the right -/
def parOk (s : Sc) (i j : Nat) (x y : Str) (px py : Pos) (a b : Expr) : Bool :=
  isFun s && kLocal s x && kLocal s y && decide (s.N[i]? = some x) && decide (s.N[j]? = some y) && decide (i ≠ j) && !s.fx.contains i && !s.fx.contains j && (py.line == px.line) && decide (x ≠ y) && notStar a && notStar b &&
    !(foldedForSure 8 a && foldedForSure 8 b) && !(constantsAlone 8 a && constantsAlone 8 b)
def docE : Expr → Bool
  | .Constant (.str _) _ _ => true
  | _ => false
mutual
def mS (T : Stat) : S → Sc → Stmt → Bool
  | .fail, _, _ => true
  | .asg i e, s, st => match st with
    | .Assign [.Name x p] v _ => loc s i x && ((notLc v) || lcCell s x v || (isComp e && lcOk s x p v)) && mE T e s v
    | _ => false
  | .unp is e, s, st => match st with
    | .Assign [.Tuple ts k p] v _ => match v, e, is, ts with
      | .Tuple [a, b] _ _, .tup [u, w], [i, j], [.Name x px, .Name y py] => parOk s i j x y px py a b && mE T u s a && mE T w s b
      | _, _, _, _ => notTup v && notLc v && mTgs s is ts && mE T e s v
    | _ => false
  | .setI i k e, s, st => match st with
    | .Assign [.Subscript (.Name x _) y _] v _ => vis s i x && notLc v && notSlice y && mE T k s y && mE T e s v
    | _ => false
  | .mut m i es, s, st => match st, m, es with
    | .Expr (.Call (.Attribute (.Name x _) a apos) [y] [] cpos) _, .app, [e] => decide (a = "append") && vis s i x && (apos.endLine == cpos.line) && notStar y && mE T e s y
    | .Expr (.Call (.Attribute (.Name x _) a apos) [] [] cpos) _, .rev, [] => decide (a = "reverse") && vis s i x && (apos.endLine == cpos.line)
    | _, _, _ => false
  | .ext i e, s, st => match st with
    | .Expr (.Call (.Attribute (.Name x _) a apos) [y] [] cpos) _ => decide (a = "extend") && vis s i x && (apos.endLine == cpos.line) && notStar y && mE T e s y
    | _ => false
  | .aug i p e, s, st => match st with
    | .AugAssign (.Name x _) o y _ => loc s i x && decide (augOf p = some o) && mE T e s y
    | _ => false
  | .expr e, s, st => match st with
    | .Expr y _ => notLc y && mE T e s y
    | _ => false
  | .ret e, s, st => match st with
    | .Return (some y) _ => mE T e s y
    | _ => false
  | .retN, _, st => match st with
    | .Return none _ => true
    | _ => false
  | .pass, _, st => match st with
    | .Pass _ => true
    | .Expr y _ => docE y
    | _ => false
  | .brk, _, st => match st with
    | .Break _ => true
    | _ => false
  | .cont, _, st => match st with
    | .Continue _ => true
    | _ => false
  | .ite c a b, s, st => match st with
    | .If x u w _ => mE T c s x && mSs T a s u && mSs T b s w
    | _ => false
  | .for tg k es body, s, st => match st with
    | .For tgt iter u [] _ => (match itShape s tgt k iter with
        | some xs => mEs T es s xs
        | none => false) && notSet iter && mTg s tg tgt && mSs T body s u
    | _ => false
  | .while c body, s, st => match st with
    | .While x u [] _ => mE T c s x && mSs T body s u
    | _ => false
def mSs (T : Stat) : List S → Sc → List Stmt → Bool
  | [], _, sts => match sts with
    | [] => true
    | _ => false
  | ir :: irs, s, sts => match sts with
    | [] => false
    | st :: sts => (match ir with
      | .fail => true
      | _ => false) || (mS T ir s st && mSs T irs s sts)
end
end EV

namespace EV
open PyProof.Rows PySem L2 PySem.Spec

structure ClOk (M : Mt) (T : Stat) (K : PySem.W.Frag) (c : Nat) : Prop where
  cls : Cls K (M.cl c)
  attr : ∀ f ∈ T.fnm, NoAttr K (M.cl c) f
  ha : PySem.W.findIn K (.ref (M.cl c)) "__class__" = some (some (.builtin "object.__class__"))
  hn : PySem.W.specialIn K (.builtin "object.__class__") "__get__" = some (some (.builtin "getset_descriptor.__get__"))
  htk : PySem.W.takesIn K (.builtin "object.__class__") = some true
  hm : PySem.W.mroIn K (M.cl c) (.type "object") = some true
  k1 : ∀ n ∈ ["NoneType", "bool", "int", "str", "list", "tuple", "dict"], PySem.W.kitOne K (.type n) (.ref (M.cl c)) = some false
  k2 : ∀ n ∈ ["str", "int", "tuple", "list", "bool", "dict"], PySem.W.kitOne K (.ref (M.cl c)) (.type n) = some false
  k3 : ∀ d, d < T.cnm.length → PySem.W.kitOne K (.ref (M.cl c)) (.ref (M.cl d)) = some (c == d)
/-- a class whose __init__ stores its arguments -/
def spNew (M : Mt) (c : Nat) (ns : List Nat) : Sp := fun vs H Q _ => ∃ a dx us, vs = .ref a :: us ∧ us.length = ns.length ∧ H a = some (.ins (M.cl c) dx []) ∧ Q .non (upd H a (.ins (M.cl c) dx ((ns.map M.fn).zip us)))

structure Gd (M : Mt) (T : Stat) (G : List D) (CL : List (List Nat)) (C : CallF) (n : Nat) (X : Cx) (s : Sc) : Prop where
  k : X.K = M.K
  calm : X.calm = true
  N : X.N = s.N
  nd : X.N.Nodup
  sc : X.env.scope = s.sc
  fn : ∀ x, s.fnB x = true → X.fn x = true
  room : Room n X.A
  xe : X.xe = fun _ _ => False
  glb : ∀ (g : Nat) (x : Str) (d : D), T.glb[g]? = some x → G[g]? = some d → ∃ u v, X.mg x = some u ∧ RelV v u ∧ Rp M (fun _ => none) d v
  blt : ∀ x ∈ bltNames, X.mg x = none
  fns : ∀ (f : Nat) (F : FnS), T.fns[f]? = some F → ∃ fa fd, FnOk X.prog X.w X.K X.mg X.base CX0 n fa fd F.ps (spF M C f F.refs) ∧ Binds X.K fd F.ps [] ∧ PySem.W.keepIn X.K (.ref fa) = true ∧
    (F.meth = false → X.mg F.nm = some (.ref fa)) ∧ (F.meth = true → Meth X.K (M.cl F.cls) F.nm fa)
  psl : ∀ (f : Nat) (F : FnS) (os : List O) (r : O) (ps : List (Option O)), T.fns[f]? = some F → C f os = some (r, ps) → ps.length = F.refs.length
  clm : ∀ (f : Nat) (F : FnS) (c : Nat) (fs : List (Nat × D)) (os : List O) (r : O) (ps : List (Option O)), T.fns[f]? = some F → F.meth = true → C f (.val (.ins c fs) :: os) = some (r, ps) → c = F.cls
  cls : ∀ (c : Nat) (x : Str), T.cnm[c]? = some x → ClOk M T X.K c ∧ X.mg x = some (.ref (M.cl c))
  fcl : ∀ (f : Nat) (F : FnS), T.fns[f]? = some F → F.meth = true → ∃ x, T.cnm[F.cls]? = some x
  new : ∀ (c : Nat) (x : Str) (ns : List Nat), T.cnm[c]? = some x → CL[c]? = some ns → ∃ fi fd ps j, n = j + 1 ∧ Mk X.K (M.cl c) fi ∧ Binds X.K fd ps [] ∧ FnOk X.prog X.w X.K X.mg X.base CX0 j fi fd ps (spNew M c ns)
  fnm : ∀ k, M.fn k = T.fnm.getD k Str.empty
  fnd : T.fnm.Nodup ∧ Str.empty ∉ T.fnm
  mnm : ∀ (f : Nat) (F : FnS), T.fns[f]? = some F → F.meth = true → F.nm ∉ T.fnm ∧ F.nm ≠ Str.empty
  nc : M.nc = T.cnm.length
  gk : M.gk = gkA G

section
variable {M : Mt} {T : Stat} {G : List D} {CL : List (List Nat)} {C : CallF} {n : Nat} {X : Cx} {s : Sc}
theorem Gd.hu (g : Gd M T G CL C n X s) : X.A.units + 65 < cLine := by have := g.room.un; omega
theorem okName_d {x : Str} (h : okName x = true) : (x == ("__debug__" : Str)) = false ∧ (x == ("__classdict__" : Str)) = false ∧ x ≠ "__name__" := by
  unfold okName at h
  simp only [Bool.and_eq_true, Bool.not_eq_true'] at h
  exact ⟨h.1.1, h.1.2, by simpa using h.2⟩
theorem Gd.vis (g : Gd M T G CL C n X s) {i : Nat} {x : Str} {pos : Pos} (h : vis s i x = true) : PE X (.Name x pos) (tVar i) := by
  unfold EV.vis at h
  simp only [Bool.and_eq_true, decide_eq_true_eq] at h
  obtain ⟨⟨h1, h2⟩, h3⟩ := h
  obtain ⟨d1, d2, d3⟩ := okName_d h2
  refine pe_var (by rw [g.N]; exact h1) ?_ d1 d2
  unfold Vis
  rw [g.sc]
  split at h3 <;> first | exact .inl (by assumption) | exact .inr (.inl (by assumption)) | exact .inr (.inr (by assumption)) | cases h3
theorem Gd.gl (g : Gd M T G CL C n X s) {x : Str} (h : gl s x = true) : Gl X x ∧ (x == ("__debug__" : Str)) = false ∧ x ≠ "__name__" := by
  unfold EV.gl at h
  simp only [Bool.and_eq_true] at h
  obtain ⟨d1, d2, d3⟩ := okName_d h.1
  refine ⟨?_, d1, d3⟩
  unfold Gl Env.kindOf
  rw [g.sc]
  have h2 := h.2
  split at h2 <;> first | assumption | cases h2
theorem Gd.loc (g : Gd M T G CL C n X s) {i : Nat} {x : Str} {pos : Pos} (h : loc s i x = true) : X.N[i]? = some x ∧ L2.Loc X.env.scope x ∧ (X.fn x = true ∨ X.env.scope.names.lookup x = some .local) ∧ i ∉ s.fx := by
  unfold EV.loc at h
  simp only [Bool.and_eq_true, decide_eq_true_eq, Bool.not_eq_true'] at h
  obtain ⟨⟨h1, h2⟩, h3⟩ := h
  refine ⟨by rw [g.N]; exact h1, ?_, ?_, by simpa using h3⟩
  · unfold L2.Loc
    rw [g.sc]
    split at h2 <;> first | exact .inl (by assumption) | exact .inr (by assumption) | cases h2
  · rw [g.sc]
    split at h2 <;> first | exact .inr (by assumption) | exact .inl (g.fn _ h2) | cases h2
def PEs (X : Cx) : List Expr → List TE → Prop
  | [], [] => True
  | x :: xs, t :: ts => PE X x t ∧ PEs X xs ts
  | _, _ => False
theorem starEach_of {x : Expr} {xs : List Expr} {env : PySem.Env} (h : notStar x = true) : starEach (x :: xs) env = (false, eval x env) :: starEach xs env := by
  cases x <;> first | rfl | cases h
theorem stars_none {env : PySem.Env} {pos : Pos} : ∀ {xs : List Expr}, xs.all notStar = true → (backTo pos (starEach xs env)).any (·.1) = false
  | [], _ => rfl
  | x :: xs, h => by
    rw [List.all_cons, Bool.and_eq_true] at h
    rw [starEach_of h.1]
    show (false || (backTo pos (starEach xs env)).any (·.1)) = false
    rw [stars_none h.2]
    rfl
theorem pa_of : ∀ {xs : List Expr} {ts : List TE}, PEs X xs ts → xs.all notStar = true → PA X xs (nest ts)
  | [], [], _, _ => pa_nil
  | [], _ :: _, h, _ => h.elim
  | _ :: _, [], h, _ => h.elim
  | x :: xs, t :: ts, h, hs => by
    rw [List.all_cons, Bool.and_eq_true] at hs
    exact pa_cons h.1 (pa_of h.2 hs.2) (starEach_of hs.1)
theorem isTrue_ok {x : Expr} {env : PySem.Env} (h : okTruth x = true) (whole : Sem Value) : PySem.isTrue x env whole = (do let v ← whole; standAt x.pos; holding [v] (truthy v)) := by
  cases x with
  | UnaryOp op y p => cases op <;> first | rfl | cases h
  | BoolOp _ _ _ => cases h
  | IfExp _ _ _ _ => cases h
  | Compare _ _ _ _ => cases h
  | _ => rfl
theorem base_ok {o : Expr} {a : Str} {env : PySem.Env} (h : okBase o = true) : attributeBase o a env (eval o env) = eval o env := by
  cases o with
  | Call f args kws pos =>
    cases f with
    | Name id p =>
      cases args with
      | nil =>
        cases kws with
        | nil =>
          unfold okBase at h
          unfold attributeBase
          simp only [h, Bool.true_or, if_true]
        | cons _ _ => rfl
      | cons _ _ => rfl
    | _ => rfl
  | _ => rfl
/-- truth -/
theorem truth_ok {Z H : Hp} {o : O} {v : V} {f : List Addr} {b : Bool} (r : RpO M Z H o v f) (sb : Sub Z H) (h : truth o.frz = some b) : TruV M.K v H b := by
  have w : RpW M Z H o.frz v := ⟨o, f, r, rfl⟩
  revert w h
  generalize o.frz = d
  intro h w
  cases d with
  | non => cases w.non; cases h; exact rfl
  | bl b => cases w.bl; cases h; exact rfl
  | int i => cases w.int; cases h; exact rfl
  | str y =>
    cases w.str
    unfold truth at h
    obtain ⟨h1, h2⟩ := ite_some h
    cases h2
    exact ⟨h1, rfl⟩
  | lst xs =>
    obtain ⟨a, vs, rfl, h1, h2⟩ := w.lst sb
    cases h
    refine .inl ⟨vs, h1, ?_⟩
    have := h2.length
    cases vs <;> cases xs <;> first | rfl | simp at this
  | tup xs =>
    obtain ⟨a, vs, rfl, h1, h2⟩ := w.tup sb
    cases h
    refine .inr (.inl ⟨vs, h1, ?_⟩)
    have := h2.length
    cases vs <;> cases xs <;> first | rfl | simp at this
  | dctK xs => cases h
  | dctT xs => cases h
  | ins _ _ => cases h
theorem post_false {o : O} {ρ : Env} : post false o ρ = some (o, ρ) := rfl
theorem post_true {o r : O} {ρ ρ' : Env} (h : post true o ρ = some (r, ρ')) : ∃ b, truth o.frz = some b ∧ r = .val (.bl b) ∧ ρ' = ρ := by
  unfold post at h
  simp only at h
  cases q : truth o.frz with
  | none => rw [q] at h; cases h
  | some b => rw [q] at h; cases h; exact ⟨b, rfl, rfl, rfl⟩
/-- what is asked for its truth -/
theorem pt_of {x : Expr} {m : Env → Option (O × Env)} {m' : Env → Option (O × Env)} (hK : X.K = M.K) (h : PE X x (tM M m)) (ht : okTruth x = true)
    (hm : ∀ ρ p, m' ρ = some p → ∃ o ρ', m ρ = some (o, ρ') ∧ post true o ρ' = some p) : PT X x (tT M m') := by
  refine PT.weak (pt_truth h (isTrue_ok ht)) fun σ H Q hq => ?_
  obtain ⟨Z, ρ, φ, b, ρ', e, hm', q⟩ := hq
  obtain ⟨o, ρ1, h1, h2⟩ := hm ρ _ hm'
  obtain ⟨b', t, hb, rfl⟩ := post_true h2
  cases hb
  refine ⟨Z, ρ, φ, o, _, e, h1, fun v Z' H' φ' f st e' r hf => ⟨b, ?_, q Z' H' φ' (st.less fun a => .inl) e'⟩⟩
  rw [hK]
  exact truth_ok r e'.sub t
/-- .. where nothing is told -/
theorem pt_never {x : Expr} {m : Env → Option (O × Env)} (h : ∀ ρ p, m ρ ≠ some p) : PT X x (tT M m) := ⟨fun _ _ _ _ _ _ ⟨_, ρ, _, _, _, _, hm, _⟩ => absurd hm (h ρ _)⟩
theorem pe_never {x : Expr} {m : Env → Option (O × Env)} (h : ∀ ρ p, m ρ ≠ some p) : PE X x (tM M m) := ⟨fun _ _ _ _ _ _ ⟨_, ρ, _, _, _, _, hm, _⟩ => absurd hm (h ρ _)⟩
/-- a value that stands frozen -/
theorem pe_val {x : Expr} {v : V} {d : D} (h : PE X x (tC v)) (r : ∀ Z, Rp M Z d v) {m : Env → Option (O × Env)} (hm : ∀ ρ p, m ρ = some p → p = (.val d, ρ)) : PE X x (tM M m) :=
  PE.weak h fun σ H Q ⟨Z, ρ, φ, o, ρ', e, h, q⟩ => by
    cases hm ρ _ h
    exact q.here e (r Z)
end
end EV

namespace EV
open PyProof.Rows PySem L2 PySem.Spec
section
variable {M : Mt} {T : Stat} {G : List D} {CL : List (List Nat)} {C : CallF} {n : Nat} {X : Cx} {s : Sc}
theorem ev_op {p : Pr} {es : List E} {ρ : Env} {o : O} {ρ' : Env} (h : ev G CL C (.op p es) false ρ = some (o, ρ')) : ∃ ds, evO G CL C es ρ = some (ds, ρ') ∧ prim p ds = some o := by
  unfold ev at h
  cases q : evO G CL C es ρ with
  | none => rw [q] at h; cases h
  | some w =>
    obtain ⟨ds, ρ1⟩ := w
    rw [q] at h
    simp only at h
    cases q2 : prim p ds with
    | none => rw [q2] at h; cases h
    | some o' => rw [q2] at h; simp only [post, Option.some.injEq, Prod.mk.injEq] at h; obtain ⟨rfl, rfl⟩ := h; exact ⟨ds, rfl, q2⟩
theorem RpWs.len {Z H : Hp} : ∀ {ds : List D} {vs : List V}, RpWs M Z H ds vs → vs.length = ds.length
  | [], _, h => by cases h; rfl
  | d :: ds, _, h => by obtain ⟨v, vs, rfl, _, h⟩ := h; simp [RpWs.len h]
theorem evO_len : ∀ {es : List E} {ρ ρ' : Env} {ds : List D}, evO G CL C es ρ = some (ds, ρ') → ds.length = es.length
  | [], _, _, _, h => by simp only [evO, Option.some.injEq, Prod.mk.injEq] at h; obtain ⟨rfl, _⟩ := h; rfl
  | e :: es, ρ, ρ', ds, h => by
    unfold evO at h
    split at h
    · split at h
      · cases h
      · split at h
        · cases h
        · rename_i q
          split at h
          · cases h
          · cases h; simp [evO_len q]
    · split at h
      · cases h
      · split at h
        · cases h
        · rename_i q; cases h; simp [evO_len q]
/-- an operation whose reading is by the operands' values -/
theorem e_op {p : Pr} {es : List E} {e : Expr} {t : TE} (h : PE X e t)
    (w : ∀ σ H Q Z ρ φ ds ρ' o, EOk M Z H σ ρ φ → evO G CL C es ρ = some (ds, ρ') → prim p ds = some o → Post M Z H ρ φ σ o ρ' Q → t σ H Q) : PE X e (tM M (ev G CL C (.op p es) false)) :=
  PE.weak h fun σ H Q ⟨Z, ρ, φ, o, ρ', e, h, q⟩ => by
    obtain ⟨ds, h1, h2⟩ := ev_op h
    exact w σ H Q Z ρ φ ds ρ' o e h1 h2 q
theorem e_op1 {p : Pr} {a : E} {x e : Expr} {t : TE → TE} {r : V → Hp → VK → Prop} (ha : PE X x (rdO M G CL C a)) (hpe : ∀ ta, PE X x ta → PE X e (t ta)) (ht : ∀ ta σ H Q, (ta σ H fun v H1 => r v H1 Q) → t ta σ H Q)
    (srv : ∀ (Z H : Hp) (x : V) (dx : D) (o : O) (Q : VK), Sub Z H → RpW M Z H dx x → prim p [dx] = some o → Cont M Z H o Q → r x H Q) : PE X e (tM M (ev G CL C (.op p [a]) false)) := by
  refine e_op (hpe _ ha) fun σ H Q Z ρ φ ds ρ' o e h1 h2 q => ht _ _ _ _ ?_
  exact ops_ok (K := fun vs H2 => match vs with | [x] => r x H2 Q | _ => False) [a] e h1 fun vs Z1 H1 φ1 st e1 ra => by
    match ds, evO_len h1, ra, h2 with
    | [d1], _, ra, h2 =>
      obtain ⟨v, vs, rfl, r1, rfl⟩ := ra
      exact srv Z1 H1 v d1 o Q e1.sub r1 h2 (q.cont st e1)
theorem e_op2 {p : Pr} {a b : E} {x y e : Expr} {t : TE → TE → TE} {r : R2} (ha : PE X x (rdO M G CL C a)) (hb : PE X y (rdO M G CL C b)) (hpe : ∀ ta tb, PE X x ta → PE X y tb → PE X e (t ta tb))
    (ht : ∀ ta tb σ H Q, (ta σ H fun v H1 => tb σ H1 fun w H2 => r v w H2 Q) → t ta tb σ H Q) (srv : Srv M p r) :
    PE X e (tM M (ev G CL C (.op p [a, b]) false)) := by
  refine e_op (hpe _ _ ha hb) fun σ H Q Z ρ φ ds ρ' o e h1 h2 q => ht _ _ _ _ _ ?_
  exact ops_ok (K := fun vs H2 => match vs with | [x, y] => r x y H2 Q | _ => False) [a, b] e h1 fun vs Z1 H1 φ1 st e1 ra => by
    match ds, evO_len h1, ra, h2 with
    | [d1, d2], _, ra, h2 =>
      obtain ⟨v, vs, rfl, r1, w, ws, rfl, r2, rfl⟩ := ra
      exact srv Z1 H1 v w d1 d2 o Q e1.sub r1 r2 h2 (q.cont st e1)
theorem e_op3 {p : Pr} {a b c : E} {x y z e : Expr} {t : TE → TE → TE → TE} {r : V → V → V → Hp → VK → Prop} (ha : PE X x (rdO M G CL C a)) (hb : PE X y (rdO M G CL C b)) (hc : PE X z (rdO M G CL C c)) (hpe : ∀ ta tb tc, PE X x ta → PE X y tb → PE X z tc → PE X e (t ta tb tc))
    (ht : ∀ ta tb tc σ H Q, (ta σ H fun v H1 => tb σ H1 fun w H2 => tc σ H2 fun u H3 => r v w u H3 Q) → t ta tb tc σ H Q)
    (srv : ∀ (Z H : Hp) (x y z : V) (dx dy dz : D) (o : O) (Q : VK), Sub Z H → RpW M Z H dx x → RpW M Z H dy y → RpW M Z H dz z → prim p [dx, dy, dz] = some o → Cont M Z H o Q → r x y z H Q) :
    PE X e (tM M (ev G CL C (.op p [a, b, c]) false)) := by
  refine e_op (hpe _ _ _ ha hb hc) fun σ H Q Z ρ φ ds ρ' o e h1 h2 q => ht _ _ _ _ _ _ ?_
  exact ops_ok (K := fun vs H2 => match vs with | [x, y, z] => r x y z H2 Q | _ => False) [a, b, c] e h1 fun vs Z1 H1 φ1 st e1 ra => by
    match ds, evO_len h1, ra, h2 with
    | [d1, d2, d3], _, ra, h2 =>
      obtain ⟨v, vs, rfl, r1, w, ws, rfl, r2, u, us, rfl, r3, rfl⟩ := ra
      exact srv Z1 H1 v w u d1 d2 d3 o Q e1.sub r1 r2 r3 h2 (q.cont st e1)
/-! ### items -/
theorem atI_some {α : Type} {xs : List α} {i : Int} {d : α} (h : atI xs i = some d) : ∃ j, ixN xs.length i = some j ∧ xs[j]? = some d := by
  unfold atI at h
  exact Option.bind_eq_some_iff.mp h
theorem RpA.atI {Z : Hp} {ds : List D} {vs : List V} {i : Int} {d : D} (r : RpA M Z ds vs) (h : atI ds i = some d) : ∃ v, L2.atI vs i = some v ∧ Rp M Z d v := by
  obtain ⟨j, h1, h2⟩ := atI_some h
  obtain ⟨v, h3, h4⟩ := r.get h2
  refine ⟨v, ?_, h4⟩
  unfold L2.atI
  rw [r.length, h1]
  exact h3
def rIxD (K : PySem.W.Frag) : R2 := fun x y H Q => ∃ a v, x = .ref a ∧ DG K H a y (some v) ∧ Q v H
theorem ix_dct (hu : X.A.units + 1 < cLine) : IxR X (rIxD X.K) := by
  intro value slice pins s σ H x y v u Q I rx ry ⟨a, w, ex, g, q⟩ hs
  subst ex
  obtain rfl : v = Value.ref a := rx
  have hT := dg_type I g
  have hg : wpAny (model X.prog X.w) X.A (getItem (.ref a) u) (EP X pins σ Q) X.xe s := dg_get hu I g ry fun w' s3 I3 rw' => ⟨w, H, I3, rw', q⟩
  have fin : wpAny (model X.prog X.w) X.A (subscripted slice false (.ref a) u) (fun r s₃ => wpAny (model X.prog X.w) X.A (letTemporaryGo value (.ref a) r >>= fun _ => pure r) (EP X pins σ Q) X.xe s₃) X.xe s := by
    rw [hs]; exact wpAny_operating (wpAny_mono hg (fun r s₃ h₃ => wpAny_bind (wpAny_letTemporaryGo (wpAny_pure h₃))) fun _ _ x => x)
  unfold subscriptTail; refine wpAny_bind ?_; rw [getitemInPython_of_ne hT.not_modules]; refine wpAny_bind (wpAny_specialOf hT PySem.F.slot_dict_getitem.lookup ?_)
  first | exact wpAny_pure (wpAny_bind fin) | exact wpAny_bind (wpAny_pure (wpAny_bind fin)) | exact wpAny_bind fin
def rIxA (K : PySem.W.Frag) : R2 := fun x y H Q => rIx K x y H Q ∨ rIxD K x y H Q
theorem idx_srv (h : X.K = M.K) : Srv M .idx (rIxA X.K) := by
  intro Z H x y dx dy o Q sb hx hy e c
  have e : idxD dx dy = some o := e
  rw [h]
  cases dx with
  | lst xs =>
    cases dy with
    | int i =>
      obtain ⟨d, h1, rfl⟩ := map_some e
      obtain ⟨a, vs, rfl, h2, h3⟩ := hx.lst sb
      obtain ⟨v, h4, h5⟩ := h3.atI h1
      exact .inl (.inl ⟨a, vs, i, v, rfl, hy.int, h2, h4, c.val sb h5⟩)
    | _ => cases e
  | tup xs =>
    cases dy with
    | int i =>
      obtain ⟨d, h1, rfl⟩ := map_some e
      obtain ⟨a, vs, rfl, h2, h3⟩ := hx.tup sb
      obtain ⟨v, h4, h5⟩ := h3.atI h1
      exact .inl (.inr (.inl ⟨a, vs, i, v, rfl, hy.int, h2, h4, c.val sb h5⟩))
    | _ => cases e
  | str z =>
    cases dy with
    | int i =>
      obtain ⟨hz, e⟩ := ite_some e
      obtain ⟨k, h1, rfl⟩ := map_some e
      exact .inl (.inr (.inr ⟨z, i, k, hx.str, hy.int, hz, h1, c.val sb rfl⟩))
    | _ => cases e
  | dctK kvs =>
    have e : (match dget (.dctK kvs) dy with | some (some d) => some (O.val d) | _ => none) = some o := e
    split at e
    · rename_i d hd
      cases e
      obtain ⟨a, r, rfl, h1, h2⟩ := dget_rp sb hx hy hd
      cases r with
      | none => exact h2.elim
      | some v => exact .inr ⟨a, v, rfl, h1, c.val sb h2⟩
    · cases e
  | dctT kvs =>
    have e : (match dget (.dctT kvs) dy with | some (some d) => some (O.val d) | _ => none) = some o := e
    split at e
    · rename_i d hd
      cases e
      obtain ⟨a, r, rfl, h1, h2⟩ := dget_rp sb hx hy hd
      cases r with
      | none => exact h2.elim
      | some v => exact .inr ⟨a, v, rfl, h1, c.val sb h2⟩
    · cases e
  | _ => cases e
theorem RpF.get (g : Gd M T G CL C n X s) {Z : Hp} {k : Nat} {f : Str} (hf : T.fnm[k]? = some f) : ∀ {ds : List (Nat × D)} {xs : List (Str × V)} {d : D}, RpF M Z ds xs → ds.lookup k = some d → ∃ v, xs.lookup f = some v ∧ Rp M Z d v
  | [], _, _, _, h => by cases h
  | (j, d') :: ds, _, d, h, hl => by
    obtain ⟨v, vs, rfl, h1, h2⟩ := h
    have hk : M.fn k = f := by rw [g.fnm, List.getD_eq_getElem?_getD, hf]; rfl
    have fne : f ≠ Str.empty := fun e => g.fnd.2 (e ▸ List.mem_of_getElem? hf)
    by_cases e : k = j
    · subst e
      rw [List.lookup_cons_self] at hl
      cases hl
      rw [hk, List.lookup_cons_self]
      exact ⟨v, rfl, h1⟩
    · have ne : f ≠ M.fn j := fun q => by
        rw [g.fnm, List.getD_eq_getElem?_getD] at q
        cases q2 : T.fnm[j]? with
        | none => rw [q2] at q; exact fne q
        | some w =>
          rw [q2] at q
          have q : f = w := q
          subst q
          exact e (nodup_ix g.fnd.1 hf q2)
      rw [List.lookup_cons, (show (k == j) = false from by simpa using e)] at hl
      rw [List.lookup_cons, (show (f == M.fn j) = false from by simpa using ne)]
      exact RpF.get g hf h2 hl
theorem RpF.no (g : Gd M T G CL C n X s) {Z : Hp} {m : Str} (hm : m ∉ T.fnm ∧ m ≠ Str.empty) : ∀ {ds : List (Nat × D)} {xs : List (Str × V)}, RpF M Z ds xs → xs.lookup m = none
  | [], _, h => by cases h; rfl
  | (j, d') :: ds, _, h => by
    obtain ⟨v, vs, rfl, h1, h2⟩ := h
    have ne : m ≠ M.fn j := fun q => by
      rw [g.fnm, List.getD_eq_getElem?_getD] at q
      cases q2 : T.fnm[j]? with
      | none => rw [q2] at q; exact hm.2 q
      | some w => rw [q2] at q; exact hm.1 (q ▸ List.mem_of_getElem? q2)
    rw [List.lookup_cons, (show (m == M.fn j) = false from by simpa using ne)]
    exact RpF.no g hm h2
/-! ### built-ins -/
theorem RpA.ints {Z : Hp} : ∀ {ds : List D} {vs : List V} {ns : List Int}, RpA M Z ds vs → allInt ds = some ns → vs = ns.map V.int
  | [], _, _, h, e => by cases h; cases e; rfl
  | d :: ds, _, ns, h, e => by
    obtain ⟨v, vs, rfl, h1, h2⟩ := h
    cases d with
    | int i =>
      obtain ⟨l, e2, rfl⟩ := map_some e
      cases h1
      rw [RpA.ints h2 e2]
      rfl
    | _ => cases e
theorem RpA.bls {Z : Hp} : ∀ {ds : List D} {vs : List V} {ns : List Bool}, RpA M Z ds vs → allBl ds = some ns → vs = ns.map V.bl
  | [], _, _, h, e => by cases h; cases e; rfl
  | d :: ds, _, ns, h, e => by
    obtain ⟨v, vs, rfl, h1, h2⟩ := h
    cases d with
    | bl i =>
      obtain ⟨l, e2, rfl⟩ := map_some e
      cases h1
      rw [RpA.bls h2 e2]
      rfl
    | _ => cases e
theorem RpA.strs {Z : Hp} : ∀ {ds : List D} {vs : List V} {ns : List Str}, RpA M Z ds vs → allStr ds = some ns → vs = ns.map V.str
  | [], _, _, h, e => by cases h; cases e; rfl
  | d :: ds, _, ns, h, e => by
    obtain ⟨v, vs, rfl, h1, h2⟩ := h
    cases d with
    | str i =>
      obtain ⟨l, e2, rfl⟩ := map_some e
      cases h1
      rw [RpA.strs h2 e2]
      rfl
    | _ => cases e
theorem RpA.ofStrs {Z : Hp} : ∀ (ns : List Str), RpA M Z (ns.map .str) (ns.map V.str)
  | [] => rfl
  | n :: ns => ⟨.str n, ns.map V.str, rfl, rfl, RpA.ofStrs ns⟩
/-- a built-in of one value -/
def Srv1 (M : Mt) (p : Pr) (r : List V → Hp → VK → Prop) : Prop := ∀ (Z H : Hp) (x : V) (dx : D) (o : O) (Q : VK), Sub Z H → RpW M Z H dx x → prim p [dx] = some o → Cont M Z H o Q → r [x] H Q
theorem lstD_some {x : D} {f : List D → Option O} {o : O} (h : lstD x f = some o) : ∃ xs, x = .lst xs ∧ f xs = some o := by
  cases x <;> first | exact ⟨_, rfl, h⟩ | cases h
theorem rpk_len {Z : Hp} : ∀ {ds : List (Key × D)} {vs : List (Key × V)}, RpK M Z ds vs → vs.length = ds.length
  | [], _, h => by cases h; rfl
  | (k', d) :: ds, _, h => by
    obtain ⟨v, vs, rfl, h1, h2⟩ := h
    simp [rpk_len h2]
theorem rpt_len {Z : Hp} : ∀ {ds : List (List Key × D)} {vs : List (List Key × V)}, RpT M Z ds vs → vs.length = ds.length
  | [], _, h => by cases h; rfl
  | (k', d) :: ds, _, h => by
    obtain ⟨v, vs, rfl, h1, h2⟩ := h
    simp [rpt_len h2]
theorem insS_perm (x : Str) : ∀ l : List Str, (insS x l).Perm (x :: l)
  | [] => .refl _
  | y :: r => by
    unfold insS
    split
    · exact ((insS_perm x r).cons y).trans (.swap x y r)
    · exact .refl _
theorem sortS_perm : ∀ l : List Str, (sortS l).Perm l
  | [] => .refl _
  | x :: r => (insS_perm x (sortS r)).trans ((sortS_perm r).cons x)
def leS (a b : Str) : Prop := a.cps.toList ≤ b.cps.toList
theorem leS_trans {a b c : Str} (h : leS a b) (h' : leS b c) : leS a c := List.le_trans h h'
theorem insS_sorted (x : Str) : ∀ l : List Str, l.Pairwise leS → (insS x l).Pairwise leS
  | [], _ => by simp [insS]
  | y :: r, h => by
    rw [List.pairwise_cons] at h
    unfold insS
    split
    · rename_i hd
      rw [decide_eq_true_eq] at hd
      rw [List.pairwise_cons]
      refine ⟨fun z hz => ?_, insS_sorted x r h.2⟩
      rcases List.mem_cons.mp ((insS_perm x r).mem_iff.mp hz) with rfl | hz
      · exact List.le_of_lt hd
      · exact h.1 z hz
    · rename_i hd
      rw [decide_eq_false_iff_not] at hd
      have hxy : leS x y := List.not_lt.mp hd
      rw [List.pairwise_cons, List.pairwise_cons]
      refine ⟨fun z hz => ?_, h⟩
      rcases List.mem_cons.mp hz with rfl | hz
      · exact hxy
      · exact leS_trans hxy (h.1 z hz)
theorem sortS_sorted : ∀ l : List Str, (sortS l).Pairwise leS
  | [] => .nil
  | x :: r => insS_sorted x _ (sortS_sorted r)
theorem rising_pw : ∀ (l : List Str) (p : Str), risingS p l = true → (p :: l).Pairwise leS
  | [], p, _ => by simp
  | x :: r, p, h => by
    unfold risingS at h
    rw [Bool.and_eq_true, Bool.not_eq_true', PyProof.Rows.ltCps_eq, decide_eq_false_iff_not] at h
    have h1 : leS p x := List.not_lt.mp h.1
    have ih := rising_pw r x h.2
    rw [List.pairwise_cons]
    refine ⟨fun z hz => ?_, ih⟩
    rw [List.pairwise_cons] at ih
    rcases List.mem_cons.mp hz with rfl | hz
    · exact h1
    · exact leS_trans h1 (ih.1 z hz)
theorem sortedS_pw : ∀ l : List Str, sortedS l = true → l.Pairwise leS
  | [], _ => .nil
  | x :: r, h => rising_pw r x h
theorem sortS_uniq {l l' : List Str} (h : l'.Perm l) (hs : sortedS l' = true) : l' = sortS l := by
  refine List.Perm.eq_of_pairwise (le := leS) (fun a b _ _ h1 h2 => ?_) (sortedS_pw _ hs) (sortS_sorted l) (h.trans (sortS_perm l).symm)
  have : a.cps.toList = b.cps.toList := List.le_antisymm h1 h2
  cases a; cases b
  simp at this
  simpa using this
theorem bi_ok (hK : X.K = M.K) (hc : X.calm = true) (p : Pr) (x : Str) (h : biOf p = some x) (h1 : x ≠ "min") (h2 : x ≠ "max") : ∃ id r, bootBuiltins x = some (.builtin id) ∧ CallR X (.builtin id) r ∧ Srv1 M p r := by
  cases p <;> simp only [biOf, reduceCtorEq, Option.some.injEq] at h
  case len =>
    subst h
    refine ⟨"len", _, PySem.boot_len, (call_len_str.or call_len_seq).or (call_lenD.or call_len_dT), ?_⟩
    intro Z H x dx o Q sb hx e c
    have e : lenD dx = some o := e
    rw [hK]
    cases dx with
    | str z => obtain ⟨hz, e⟩ := ite_some e; cases oi_some e; exact .inl (.inl ⟨z, by rw [hx.str], hz, c.val sb rfl⟩)
    | lst xs => cases oi_some e; obtain ⟨a, vs, rfl, h2, h3⟩ := hx.lst sb; exact .inl (.inr ⟨a, vs, rfl, .inl h2, by rw [h3.length]; exact c.val sb rfl⟩)
    | tup xs => cases oi_some e; obtain ⟨a, vs, rfl, h2, h3⟩ := hx.tup sb; exact .inl (.inr ⟨a, vs, rfl, .inr h2, by rw [h3.length]; exact c.val sb rfl⟩)
    | dctK xs => cases oi_some e; obtain ⟨a, vs, rfl, h2, h3⟩ := hx.dctK sb; exact .inr (.inl ⟨a, vs, rfl, h2, by rw [rpk_len h3]; exact c.val sb rfl⟩)
    | dctT xs => cases oi_some e; obtain ⟨a, vs, rfl, h2, h3⟩ := hx.dctT sb; exact .inr (.inr ⟨a, vs, rfl, h2, by rw [rpt_len h3]; exact c.val sb rfl⟩)
    | _ => cases e
  case sum =>
    subst h
    refine ⟨"sum", _, by decide +kernel, cr_sum hc, ?_⟩
    intro Z H x dx o Q sb hx e c
    obtain ⟨xs, rfl, e⟩ := lstD_some e
    obtain ⟨ns, e1, e2⟩ := Option.bind_eq_some_iff.mp e
    cases oi_some e2
    rw [hK]
    obtain ⟨a, vs, rfl, h2, h3⟩ := hx.lst sb
    exact ⟨a, ns, rfl, by rw [← h3.ints e1]; exact h2, c.val sb rfl⟩
  case all =>
    subst h
    refine ⟨"all", _, by decide +kernel, cr_all hc, ?_⟩
    intro Z H x dx o Q sb hx e c
    obtain ⟨xs, rfl, e⟩ := lstD_some e
    obtain ⟨ns, e1, e2⟩ := Option.bind_eq_some_iff.mp e
    cases ob_some e2
    rw [hK]
    obtain ⟨a, vs, rfl, h2, h3⟩ := hx.lst sb
    exact ⟨a, ns, rfl, by rw [← h3.bls e1]; exact h2, c.val sb rfl⟩
  case any =>
    subst h
    refine ⟨"any", _, by decide +kernel, cr_any hc, ?_⟩
    intro Z H x dx o Q sb hx e c
    obtain ⟨xs, rfl, e⟩ := lstD_some e
    obtain ⟨ns, e1, e2⟩ := Option.bind_eq_some_iff.mp e
    cases ob_some e2
    rw [hK]
    obtain ⟨a, vs, rfl, h2, h3⟩ := hx.lst sb
    exact ⟨a, ns, rfl, by rw [← h3.bls e1]; exact h2, c.val sb rfl⟩
  case sorted =>
    subst h
    refine ⟨"sorted", _, boot_sorted, cr_sortedS, ?_⟩
    intro Z H x dx o Q sb hx e c
    obtain ⟨xs, rfl, e⟩ := lstD_some e
    obtain ⟨ns, e1, e2⟩ := Option.bind_eq_some_iff.mp e
    obtain ⟨hz, e2⟩ := ite_some e2
    cases e2
    rw [hK]
    obtain ⟨a, vs, rfl, h2, h3⟩ := hx.lst sb
    refine ⟨a, ns, rfl, by rw [← h3.strs e1]; exact h2, hz, fun ys p hp hs hn => ?_⟩
    rw [sortS_uniq hp hs]
    exact new_lst sb c (.ofStrs _) hn
  case min2 => exact absurd h.symm h1
  case max2 => exact absurd h.symm h2
theorem ty_ok (hK : X.K = M.K) (p : Pr) (x : Str) (h : tyOf p = some x) : ∃ id r, bootBuiltins x = some (.type id) ∧ CallR X (.type id) r ∧ Srv1 M p r := by
  cases p <;> simp only [tyOf, reduceCtorEq, Option.some.injEq] at h
  case int =>
    subst h
    refine ⟨"int", _, boot_int, call_int1, ?_⟩
    intro Z H x dx o Q sb hx e c
    have e : intD dx = some o := e
    cases dx with
    | int i => cases oi_some e; exact .inl ⟨i, by rw [hx.int], c.val sb rfl⟩
    | bl b => cases oi_some e; exact .inr ⟨b, by rw [hx.bl], c.val sb (by cases b <;> exact rfl)⟩
    | _ => cases e
  case str =>
    subst h
    refine ⟨"str", _, boot_str, call_str_int, ?_⟩
    intro Z H x dx o Q sb hx e c
    have e : strD dx = some o := e
    cases dx with
    | int i => obtain ⟨hz, e⟩ := ite_some e; cases e; exact ⟨i, by rw [hx.int], hz, c.val sb rfl⟩
    | _ => cases e
  case list =>
    subst h
    refine ⟨"list", _, boot_list, call_list_of, ?_⟩
    intro Z H x dx o Q sb hx e c
    obtain ⟨xs, e1, rfl⟩ := map_some e
    rw [hK]
    obtain ⟨a, vs, rfl, h2, h3⟩ := hx.seq sb e1
    exact ⟨a, vs, rfl, h2, fun l hl => new_lst sb c h3 hl⟩
  case tuple =>
    subst h
    refine ⟨"tuple", _, boot_tuple, call_tuple_of, ?_⟩
    intro Z H x dx o Q sb hx e c
    obtain ⟨xs, e1, rfl⟩ := map_some e
    rw [hK]
    cases dx with
    | lst ds => cases e1; obtain ⟨a, vs, rfl, h2, h3⟩ := hx.lst sb; exact ⟨a, vs, rfl, .inl ⟨h2, fun l hl => new_tup sb c h3 hl⟩⟩
    | tup ds => cases e1; have hx' := hx.ofval rfl; obtain ⟨a, vs, rfl, h2, h3⟩ := hx.tup sb; exact ⟨a, vs, rfl, .inr ⟨h2, c.val sb hx'⟩⟩
    | _ => cases e1
  case tupleL =>
    subst h
    refine ⟨"tuple", _, boot_tuple, call_tuple_of, ?_⟩
    intro Z H x dx o Q sb hx e c
    obtain ⟨xs, rfl, e⟩ := lstD_some e
    cases e
    rw [hK]
    obtain ⟨a, vs, rfl, h2, h3⟩ := hx.lst sb
    exact ⟨a, vs, rfl, .inl ⟨h2, fun l hl => new_tup sb c h3 hl⟩⟩
/-! ### isinstance -/
def tyV : D → String
  | .non => "NoneType" | .bl _ => "bool" | .int _ => "int" | .str _ => "str" | .tup _ => "tuple" | .lst _ => "list" | .dctK _ => "dict" | .dctT _ => "dict" | .ins _ _ => "object"
theorem tyx {Z H : Hp} {d : D} {v : V} (h : RpW M Z H d v) (sb : Sub Z H) (hd : ∀ c fs, d ≠ .ins c fs) : TyX M.K H v (.type (tyV d)) := by
  cases d with
  | non => cases h.non; exact .base .non
  | bl b => cases h.bl; exact .base (.bl b)
  | int i => cases h.int; exact .base (.int i)
  | str x => cases h.str; exact .base (.str x)
  | tup ds =>
    obtain ⟨a, xs, rfl, h1, _⟩ := h.tup sb
    rcases h1 with (h1 | ⟨o, h1⟩) | ⟨o, _, _, h1, h2, _⟩
    · exact .base (.tup h1)
    · exact .fTuple h1
    · exact .kTuple h1 h2
  | lst ds =>
    obtain ⟨a, xs, rfl, h1, _⟩ := h.lst sb
    rcases h1 with (h1 | ⟨o, h1⟩) | ⟨o, _, _, h1, h2, _⟩
    · exact .base (.lst h1)
    · exact .base (.frz h1)
    · exact .kList h1 h2
  | dctK ds =>
    obtain ⟨a, xs, rfl, h1, _⟩ := h.dctK sb
    exact .base (.dK h1)
  | dctT ds =>
    obtain ⟨a, xs, rfl, h1, _⟩ := h.dctT sb
    exact .base (.dT h1)
  | ins c fs => exact absurd rfl (hd c fs)
theorem tyx_ins {Z H : Hp} {c : Nat} {fs : List (Nat × D)} {v : V} (h : RpW M Z H (.ins c fs) v) (sb : Sub Z H) (cl : ClOk M T M.K c) : TyX M.K H v (.ref (M.cl c)) := by
  obtain ⟨a, dx, xs, rfl, h1, _, _⟩ := h.ofval rfl
  exact .base (.ins (sb _ _ h1) cl.cls cl.ha cl.hn cl.htk cl.hm)
theorem kitTab : ∀ a ∈ ["NoneType", "bool", "int", "str", "tuple", "list", "dict"], ∀ b ∈ ["str", "int", "tuple", "list", "bool", "dict"], kitB a b = some (a == b || (a == "bool" && b == "int")) := by decide +kernel
theorem kitT {a b : String} {r : Bool} (ha : a ∈ ["NoneType", "bool", "int", "str", "tuple", "list", "dict"]) (hb : b ∈ ["str", "int", "tuple", "list", "bool", "dict"]) (hr : (a == b || (a == "bool" && b == "int")) = r) : kitB a b = some r := by rw [kitTab a ha b hb, hr]
theorem isTy_kit {K : PySem.W.Frag} {t : Nat} {y : Str} (h : tyNm t = some y) : ∃ nm : String, bootBuiltins y = some (.type nm) ∧ nm ∈ ["str", "int", "tuple", "list", "bool", "dict"] ∧ (∀ d : D, (∀ c fs, d ≠ .ins c fs) → PySem.W.kitOne K (.type (tyV d)) (.type nm) = some (isTy1 t d)) ∧ ∀ c fs, isTy1 t (.ins c fs) = false := by
  match t, h with
  | 0, h =>
    cases h
    refine ⟨"str", boot_str, by simp, fun d hd => ?_, fun c fs => by simp [isTy1] <;> omega⟩
    cases d with
    | non => exact kit_ty ((kitT (a := "NoneType") (b := "str") (r := false) (by simp) (by simp) (by decide +kernel)).trans rfl)
    | bl _ => exact kit_ty ((kitT (a := "bool") (b := "str") (r := false) (by simp) (by simp) (by decide +kernel)).trans rfl)
    | int _ => exact kit_ty ((kitT (a := "int") (b := "str") (r := false) (by simp) (by simp) (by decide +kernel)).trans rfl)
    | str _ => exact kit_ty ((kitT (a := "str") (b := "str") (r := true) (by simp) (by simp) (by decide +kernel)).trans rfl)
    | tup _ => exact kit_ty ((kitT (a := "tuple") (b := "str") (r := false) (by simp) (by simp) (by decide +kernel)).trans rfl)
    | lst _ => exact kit_ty ((kitT (a := "list") (b := "str") (r := false) (by simp) (by simp) (by decide +kernel)).trans rfl)
    | dctK _ => exact kit_ty ((kitT (a := "dict") (b := "str") (r := false) (by simp) (by simp) (by decide +kernel)).trans rfl)
    | dctT _ => exact kit_ty ((kitT (a := "dict") (b := "str") (r := false) (by simp) (by simp) (by decide +kernel)).trans rfl)
    | ins c fs => exact absurd rfl (hd c fs)
  | 1, h =>
    cases h
    refine ⟨"int", boot_int, by simp, fun d hd => ?_, fun c fs => by simp [isTy1] <;> omega⟩
    cases d with
    | non => exact kit_ty ((kitT (a := "NoneType") (b := "int") (r := false) (by simp) (by simp) (by decide +kernel)).trans rfl)
    | bl _ => exact kit_ty ((kitT (a := "bool") (b := "int") (r := true) (by simp) (by simp) (by decide +kernel)).trans rfl)
    | int _ => exact kit_ty ((kitT (a := "int") (b := "int") (r := true) (by simp) (by simp) (by decide +kernel)).trans rfl)
    | str _ => exact kit_ty ((kitT (a := "str") (b := "int") (r := false) (by simp) (by simp) (by decide +kernel)).trans rfl)
    | tup _ => exact kit_ty ((kitT (a := "tuple") (b := "int") (r := false) (by simp) (by simp) (by decide +kernel)).trans rfl)
    | lst _ => exact kit_ty ((kitT (a := "list") (b := "int") (r := false) (by simp) (by simp) (by decide +kernel)).trans rfl)
    | dctK _ => exact kit_ty ((kitT (a := "dict") (b := "int") (r := false) (by simp) (by simp) (by decide +kernel)).trans rfl)
    | dctT _ => exact kit_ty ((kitT (a := "dict") (b := "int") (r := false) (by simp) (by simp) (by decide +kernel)).trans rfl)
    | ins c fs => exact absurd rfl (hd c fs)
  | 2, h =>
    cases h
    refine ⟨"tuple", boot_tuple, by simp, fun d hd => ?_, fun c fs => by simp [isTy1] <;> omega⟩
    cases d with
    | non => exact kit_ty ((kitT (a := "NoneType") (b := "tuple") (r := false) (by simp) (by simp) (by decide +kernel)).trans rfl)
    | bl _ => exact kit_ty ((kitT (a := "bool") (b := "tuple") (r := false) (by simp) (by simp) (by decide +kernel)).trans rfl)
    | int _ => exact kit_ty ((kitT (a := "int") (b := "tuple") (r := false) (by simp) (by simp) (by decide +kernel)).trans rfl)
    | str _ => exact kit_ty ((kitT (a := "str") (b := "tuple") (r := false) (by simp) (by simp) (by decide +kernel)).trans rfl)
    | tup _ => exact kit_ty ((kitT (a := "tuple") (b := "tuple") (r := true) (by simp) (by simp) (by decide +kernel)).trans rfl)
    | lst _ => exact kit_ty ((kitT (a := "list") (b := "tuple") (r := false) (by simp) (by simp) (by decide +kernel)).trans rfl)
    | dctK _ => exact kit_ty ((kitT (a := "dict") (b := "tuple") (r := false) (by simp) (by simp) (by decide +kernel)).trans rfl)
    | dctT _ => exact kit_ty ((kitT (a := "dict") (b := "tuple") (r := false) (by simp) (by simp) (by decide +kernel)).trans rfl)
    | ins c fs => exact absurd rfl (hd c fs)
  | 3, h =>
    cases h
    refine ⟨"list", boot_list, by simp, fun d hd => ?_, fun c fs => by simp [isTy1] <;> omega⟩
    cases d with
    | non => exact kit_ty ((kitT (a := "NoneType") (b := "list") (r := false) (by simp) (by simp) (by decide +kernel)).trans rfl)
    | bl _ => exact kit_ty ((kitT (a := "bool") (b := "list") (r := false) (by simp) (by simp) (by decide +kernel)).trans rfl)
    | int _ => exact kit_ty ((kitT (a := "int") (b := "list") (r := false) (by simp) (by simp) (by decide +kernel)).trans rfl)
    | str _ => exact kit_ty ((kitT (a := "str") (b := "list") (r := false) (by simp) (by simp) (by decide +kernel)).trans rfl)
    | tup _ => exact kit_ty ((kitT (a := "tuple") (b := "list") (r := false) (by simp) (by simp) (by decide +kernel)).trans rfl)
    | lst _ => exact kit_ty ((kitT (a := "list") (b := "list") (r := true) (by simp) (by simp) (by decide +kernel)).trans rfl)
    | dctK _ => exact kit_ty ((kitT (a := "dict") (b := "list") (r := false) (by simp) (by simp) (by decide +kernel)).trans rfl)
    | dctT _ => exact kit_ty ((kitT (a := "dict") (b := "list") (r := false) (by simp) (by simp) (by decide +kernel)).trans rfl)
    | ins c fs => exact absurd rfl (hd c fs)
  | 4, h =>
    cases h
    refine ⟨"bool", boot_bool, by simp, fun d hd => ?_, fun c fs => by simp [isTy1] <;> omega⟩
    cases d with
    | non => exact kit_ty ((kitT (a := "NoneType") (b := "bool") (r := false) (by simp) (by simp) (by decide +kernel)).trans rfl)
    | bl _ => exact kit_ty ((kitT (a := "bool") (b := "bool") (r := true) (by simp) (by simp) (by decide +kernel)).trans rfl)
    | int _ => exact kit_ty ((kitT (a := "int") (b := "bool") (r := false) (by simp) (by simp) (by decide +kernel)).trans rfl)
    | str _ => exact kit_ty ((kitT (a := "str") (b := "bool") (r := false) (by simp) (by simp) (by decide +kernel)).trans rfl)
    | tup _ => exact kit_ty ((kitT (a := "tuple") (b := "bool") (r := false) (by simp) (by simp) (by decide +kernel)).trans rfl)
    | lst _ => exact kit_ty ((kitT (a := "list") (b := "bool") (r := false) (by simp) (by simp) (by decide +kernel)).trans rfl)
    | dctK _ => exact kit_ty ((kitT (a := "dict") (b := "bool") (r := false) (by simp) (by simp) (by decide +kernel)).trans rfl)
    | dctT _ => exact kit_ty ((kitT (a := "dict") (b := "bool") (r := false) (by simp) (by simp) (by decide +kernel)).trans rfl)
    | ins c fs => exact absurd rfl (hd c fs)
  | 5, h =>
    cases h
    refine ⟨"dict", boot_dict, by simp, fun d hd => ?_, fun c fs => by simp [isTy1] <;> omega⟩
    cases d with
    | non => exact kit_ty ((kitT (a := "NoneType") (b := "dict") (r := false) (by simp) (by simp) (by decide +kernel)).trans rfl)
    | bl _ => exact kit_ty ((kitT (a := "bool") (b := "dict") (r := false) (by simp) (by simp) (by decide +kernel)).trans rfl)
    | int _ => exact kit_ty ((kitT (a := "int") (b := "dict") (r := false) (by simp) (by simp) (by decide +kernel)).trans rfl)
    | str _ => exact kit_ty ((kitT (a := "str") (b := "dict") (r := false) (by simp) (by simp) (by decide +kernel)).trans rfl)
    | tup _ => exact kit_ty ((kitT (a := "tuple") (b := "dict") (r := false) (by simp) (by simp) (by decide +kernel)).trans rfl)
    | lst _ => exact kit_ty ((kitT (a := "list") (b := "dict") (r := false) (by simp) (by simp) (by decide +kernel)).trans rfl)
    | dctK _ => exact kit_ty ((kitT (a := "dict") (b := "dict") (r := true) (by simp) (by simp) (by decide +kernel)).trans rfl)
    | dctT _ => exact kit_ty ((kitT (a := "dict") (b := "dict") (r := true) (by simp) (by simp) (by decide +kernel)).trans rfl)
    | ins c fs => exact absurd rfl (hd c fs)
end
end EV

namespace EV
open PyProof.Rows PySem L2 PySem.Spec
section
variable {M : Mt} {T : Stat} {G : List D} {CL : List (List Nat)} {C : CallF} {n : Nat} {X : Cx} {s : Sc}
theorem PEs.one {x : Expr} {ts : List TE} (h : PEs X [x] ts) : ∃ t, ts = [t] ∧ PE X x t := by
  match ts, h with
  | [t], h => exact ⟨t, rfl, h.1⟩
theorem PEs.two {x y : Expr} {ts : List TE} (h : PEs X [x, y] ts) : ∃ t u, ts = [t, u] ∧ PE X x t ∧ PE X y u := by
  match ts, h with
  | [t, u], h => exact ⟨t, u, rfl, h.1, h.2.1⟩
theorem PEs.three {x y z : Expr} {ts : List TE} (h : PEs X [x, y, z] ts) : ∃ t u w, ts = [t, u, w] ∧ PE X x t ∧ PE X y u ∧ PE X z w := by
  match ts, h with
  | [t, u, w], h => exact ⟨t, u, w, rfl, h.1, h.2.1, h.2.2.1⟩
theorem map1 {α β : Type} {f : α → β} {xs : List α} {y : β} (h : xs.map f = [y]) : ∃ a, xs = [a] ∧ f a = y := by
  match xs, h with
  | [a], h => exact ⟨a, rfl, by simpa using h⟩
theorem map2 {α β : Type} {f : α → β} {xs : List α} {y z : β} (h : xs.map f = [y, z]) : ∃ a b, xs = [a, b] ∧ f a = y ∧ f b = z := by
  match xs, h with
  | [a, b], h => simp at h; exact ⟨a, b, rfl, h.1, h.2⟩
theorem map3 {α β : Type} {f : α → β} {xs : List α} {y z w : β} (h : xs.map f = [y, z, w]) : ∃ a b c, xs = [a, b, c] ∧ f a = y ∧ f b = z ∧ f c = w := by
  match xs, h with
  | [a, b, c], h => simp at h; exact ⟨a, b, c, rfl, h.1, h.2.1, h.2.2⟩
theorem PEs.es1 {x : Expr} {es : List E} (h : PEs X [x] (es.map (rdO M G CL C))) : ∃ a, es = [a] ∧ PE X x (rdO M G CL C a) := by
  obtain ⟨t, e, h⟩ := h.one
  obtain ⟨a, rfl, rfl⟩ := map1 e
  exact ⟨a, rfl, h⟩
theorem PEs.es2 {x y : Expr} {es : List E} (h : PEs X [x, y] (es.map (rdO M G CL C))) : ∃ a b, es = [a, b] ∧ PE X x (rdO M G CL C a) ∧ PE X y (rdO M G CL C b) := by
  obtain ⟨t, u, e, h1, h2⟩ := h.two
  obtain ⟨a, b, rfl, rfl, rfl⟩ := map2 e
  exact ⟨a, b, rfl, h1, h2⟩
theorem PEs.es3 {x y z : Expr} {es : List E} (h : PEs X [x, y, z] (es.map (rdO M G CL C))) : ∃ a b c, es = [a, b, c] ∧ PE X x (rdO M G CL C a) ∧ PE X y (rdO M G CL C b) ∧ PE X z (rdO M G CL C c) := by
  obtain ⟨t, u, w, e, h1, h2, h3⟩ := h.three
  obtain ⟨a, b, c, rfl, rfl, rfl, rfl⟩ := map3 e
  exact ⟨a, b, c, rfl, h1, h2, h3⟩
theorem plainIx {b : Expr} (h : notSlice b = true) : PlainIx b := fun o i => by cases b <;> first | rfl | cases h
/-! ### operands with what is known of each at once -/
theorem tM_mono {m : Env → Option (O × Env)} {σ : L2.St} {H : Hp} {Q Q' : VK} (h : tM M m σ H Q) (w : ∀ v H, Q v H → Q' v H) : tM M m σ H Q' := by
  obtain ⟨Z, ρ, φ, o, ρ', e, hm, q⟩ := h
  exact ⟨Z, ρ, φ, o, ρ', e, hm, fun v Z' H' φ' f st e' r hf => w v H' (q v Z' H' φ' f st e' r hf)⟩
theorem rdO_mono {e : E} {σ : L2.St} {H : Hp} {Q Q' : VK} (h : rdO M G CL C e σ H Q) (w : ∀ v H, Q v H → Q' v H) : rdO M G CL C e σ H Q' := by
  cases e <;> first
    | exact tM_mono h w
    | (obtain ⟨v, h1, h2⟩ := h; exact ⟨v, h1, w _ _ h2⟩)
def nestC : List TE → List (V → Hp → Prop) → TA
  | t :: ts, P :: Ps => fun σ H K => t σ H fun v H1 => P v H1 ∧ nestC ts Ps σ H1 fun vs H2 => K (v :: vs) H2
  | _, _ => tNil
def CkOk (M : Mt) : List E → List D → List (V → Hp → Prop) → Prop
  | e :: es, d :: ds, P :: Ps => ((∀ i, e ≠ .bw i) → ∀ Z H v, Sub Z H → Rp M Z d v → P v H) ∧ (∀ i, e = .bw i → ∀ v H, P v H) ∧ CkOk M es ds Ps
  | [], [], [] => True
  | _, _, _ => False
theorem opsC : ∀ (es : List E) {Z H : Hp} {σ : L2.St} {ρ ρ' : Env} {φ : Nat → List Addr} {ds : List D} {Ps : List (V → Hp → Prop)} {K : List V → Hp → Prop}, EOk M Z H σ ρ φ → evO G CL C es ρ = some (ds, ρ') → CkOk M es ds Ps →
    (∀ vs Z' H' φ', Stp Z H (Own ρ φ) Z' H' (Own ρ' φ') → EOk M Z' H' σ ρ' φ' → RpWs M Z' H' ds vs → K vs H') → nestC (es.map (rdO M G CL C)) Ps σ H K
  | [], Z, H, σ, ρ, ρ', φ, ds, Ps, K, e, h, hp, k => by
    simp only [evO, Option.some.injEq, Prod.mk.injEq] at h
    obtain ⟨rfl, rfl⟩ := h
    exact k [] Z H φ .refl e rfl
  | x :: es, Z, H, σ, ρ, ρ', φ, ds, Ps, K, e, h, hp, k => by
    match ds, Ps, hp with
    | d :: ds, P :: Ps, hp =>
    obtain ⟨p1, p2, hp⟩ := hp
    by_cases hb : ∃ i, x = .bw i
    · obtain ⟨i, rfl⟩ := hb
      unfold evO at h
      simp only at h
      cases q0 : getS ρ i with
      | none => rw [q0] at h; cases h
      | some o0 =>
      rw [q0] at h
      simp only at h
      cases q2 : evO G CL C es ρ with
      | none => rw [q2] at h; cases h
      | some p2 =>
        obtain ⟨ds2, ρ2⟩ := p2
        rw [q2] at h
        simp only at h
        cases q3 : getS ρ2 i with
        | none => rw [q3] at h; cases h
        | some o =>
          rw [q3] at h
          simp only [Option.some.injEq, Prod.mk.injEq, List.cons.injEq] at h
          obtain ⟨⟨rfl, rfl⟩, rfl⟩ := h
          obtain ⟨v, hv, _⟩ := e.hold i o0 q0
          refine ⟨v, hv, p2 i rfl v H, ?_⟩
          refine opsC es e q2 hp fun vs Z3 H3 φ3 st3 e3 ra => ?_
          obtain ⟨v', hv', r⟩ := e3.hold i o q3
          rw [hv] at hv'
          cases hv'
          exact k (v :: vs) Z3 H3 φ3 st3 e3 ⟨v, vs, rfl, ⟨o, _, r, rfl⟩, ra⟩
    · have hd : rdO M G CL C x = tM M (ev G CL C x false) := by
        cases x <;> first | rfl | exact absurd ⟨_, rfl⟩ hb
      have h' : (match ev G CL C x false ρ with
          | none => none
          | some (o, ρ1) => match evO G CL C es ρ1 with
            | none => none
            | some (ds, ρ') => some (o.frz :: ds, ρ')) = some (d :: ds, ρ') := by
        cases x <;> first | exact h | exact absurd ⟨_, rfl⟩ hb
      cases q1 : ev G CL C x false ρ with
      | none => rw [q1] at h'; cases h'
      | some p =>
        obtain ⟨o, ρ1⟩ := p
        rw [q1] at h'
        simp only at h'
        cases q2 : evO G CL C es ρ1 with
        | none => rw [q2] at h'; cases h'
        | some p2 =>
          obtain ⟨ds2, ρ2⟩ := p2
          rw [q2] at h'
          simp only [Option.some.injEq, Prod.mk.injEq, List.cons.injEq] at h'
          obtain ⟨⟨rfl, rfl⟩, rfl⟩ := h'
          show nestC (rdO M G CL C x :: es.map (rdO M G CL C)) (P :: Ps) σ H K
          rw [hd]
          refine ⟨Z, ρ, φ, o, ρ1, e, q1, fun v Z1 H1 φ1 f st e1 r hf => ?_⟩
          obtain ⟨Z2, st2, e2, rp⟩ := frozen st e1 r hf
          refine ⟨p1 (fun i e => hb ⟨i, e⟩) Z2 H1 v e2.sub rp, ?_⟩
          refine opsC es e2 q2 hp fun vs Z3 H3 φ3 st3 e3 ra => ?_
          exact k (v :: vs) Z3 H3 φ3 (st2.trans st3) e3 ⟨v, vs, rfl, .of (Rp.mono st3.zz _ _ rp), ra⟩
theorem notBw_ne {e : E} (h : nBw e = true) : ∀ i, e ≠ .bw i := fun i q => by subst q; cases h
/-! ### slices -/
def rSlAll (K : PySem.W.Frag) : V → Option Int → Option Int → Hp → VK → Prop := fun x lo hi H Q => rSlL K x lo hi H Q ∨ rSlA K x lo hi H Q ∨ rSlS x lo hi H Q
theorem sl_all : SlR X (rSlAll X.K) := sl_list.or (sl_tupA.or sl_str)
theorem RpA.cut {Z : Hp} {ds : List D} {vs : List V} (r : RpA M Z ds vs) (lo hi : Option Int) : RpA M Z (cutL ds lo hi) (cutV vs lo hi) := by
  unfold cutL cutV
  rw [r.length]
  exact (r.drop _).take _
theorem sl_srv {Z H : Hp} {x : V} {dx : D} {lo hi : Option Int} {o : O} {Q : VK} (sb : Sub Z H) (hx : RpW M Z H dx x) (e : cutD dx lo hi = some o) (c : Cont M Z H o Q) : rSlAll M.K x lo hi H Q := by
  cases dx with
  | lst ds =>
    cases e
    obtain ⟨a, vs, rfl, h1, h2⟩ := hx.lst sb
    exact .inl ⟨a, vs, rfl, h1, fun p hp => new_lst sb c (h2.cut lo hi) hp⟩
  | tup ds =>
    cases e
    have hx' := hx.ofval rfl
    obtain ⟨a, vs, rfl, h1, h2⟩ := hx.tup sb
    refine .inr (.inl ⟨a, vs, rfl, h1, fun w => ?_, fun _ p hp => new_tup sb c (h2.cut lo hi) hp⟩)
    have : cutL ds lo hi = ds := by
      unfold cutL
      rw [← h2.length, w.1, w.2]
      simp [h2.length]
    rw [this] at c
    exact c.val sb hx'
  | str z =>
    obtain ⟨hz, e⟩ := ite_some e
    cases e
    exact .inr (.inr ⟨z, hx.str, hz, c.val sb rfl⟩)
  | _ => cases e
theorem part_some {d : D} {o : Option Int} (h : partD d = some o) : ∃ i, d = .int i ∧ o = some i := by
  cases d <;> first | (cases h; exact ⟨_, rfl, rfl⟩) | cases h
theorem bi_mem {p : Pr} {x : Str} (h : biOf p = some x) : x ∈ bltNames := by
  cases p <;> simp only [biOf, reduceCtorEq, Option.some.injEq] at h <;> subst h <;> decide
theorem ty_mem {p : Pr} {x : Str} (h : tyOf p = some x) : x ∈ bltNames := by
  cases p <;> simp only [tyOf, reduceCtorEq, Option.some.injEq] at h <;> subst h <;> decide
theorem op_all (g : Gd M T G CL C n X s) {p : Pr} {es : List E} {e : Expr} {xs : List Expr} (h : opShape T s p es e = some xs) (hx : PEs X xs (es.map (rdO M G CL C))) : PE X e (tM M (ev G CL C (.op p es) false)) := by
  unfold opShape at h
  split at h
  · -- a binary operator
    obtain ⟨h1, h⟩ := ite_some h
    cases h
    obtain ⟨a, b, rfl, ha, hb⟩ := hx.es2
    obtain ⟨r, ho, srv⟩ := bin_ok g.k p _ h1
    exact e_op2 (t := fun ta tb => tOp r ta tb) ha hb (fun ta tb => pe_op ho) (fun _ _ _ _ _ q => q) srv
  · obtain ⟨h1, h⟩ := ite_some h
    cases h
    subst h1
    obtain ⟨a, rfl, ha⟩ := hx.es1
    refine e_op1 (t := fun ta => tUn (rU fun i => .int (-i)) ta) ha (fun ta => pe_un un_neg) (fun _ _ _ _ q => q) fun Z H x dx o Q sb hx e c => ?_
    cases dx with
    | int i => cases oi_some e; exact ⟨i, hx.int, c.val sb rfl⟩
    | _ => cases e
  · -- a comparison
    obtain ⟨⟨h1, h2⟩, h⟩ := ite_some h
    cases h
    obtain ⟨a, b, rfl, ha, hb⟩ := hx.es2
    obtain ⟨r, ho, srv⟩ := cmp_ok g.k g.hu p _ h1
    exact e_op2 (t := fun ta tb => tOp r ta tb) ha hb (fun ta tb h3 h4 => pe_cmpR ho h3 h4 h2) (fun _ _ _ _ _ q => q) srv
  · -- a subscript
    split at h
    · split at h
      · -- both bounds
        obtain ⟨hw, h⟩ := ite_some h
        cases h
        obtain ⟨a, b, c, rfl, ha, hb, hc⟩ := hx.es3
        simp only [List.tail_cons, List.all_cons, List.all_nil, Bool.and_true, Bool.and_eq_true] at hw
        refine e_op (pe_slice sl_all ha (po_some hb) (po_some hc)) fun σ H Q Z ρ φ ds ρ' o e h1 h2 q => ?_
        match ds, evO_len h1, h2 with
        | [d1, d2, d3], _, h2 =>
          obtain ⟨i, e1, h2⟩ := Option.bind_eq_some_iff.mp h2
          obtain ⟨j, e2, h2⟩ := Option.bind_eq_some_iff.mp h2
          obtain ⟨i', rfl, rfl⟩ := part_some e1
          obtain ⟨j', rfl, rfl⟩ := part_some e2
          have := opsC (K := fun vs H2 => match vs with | [x, y, z] => rSlAll X.K x (some i') (some j') H2 Q | _ => False) (Ps := [fun _ _ => True, fun v _ => v = .int i', fun v _ => v = .int j']) [a, b, c] e h1
            ⟨fun _ _ _ _ _ _ => True.intro, fun _ _ _ _ => True.intro, fun _ _ _ v _ r => r, fun k hk => absurd hk (notBw_ne hw.1 k), fun _ _ _ v _ r => r, fun k hk => absurd hk (notBw_ne hw.2 k), True.intro⟩ fun vs Z1 H1 φ1 st e1 ra => by
            obtain ⟨v, vs, rfl, r1, w, ws, rfl, r2, u, us, rfl, r3, rfl⟩ := ra
            show rSlAll X.K v (some i') (some j') H1 Q
            rw [g.k]
            exact sl_srv e1.sub r1 h2 (q.cont st e1)
          refine rdO_mono this fun v H1 ⟨_, h3⟩ => rdO_mono h3 fun w H2 ⟨h4, h5⟩ => ⟨i', h4, rdO_mono h5 fun u H3 ⟨h6, h7⟩ => ⟨j', h6, h7⟩⟩
      · -- from
        obtain ⟨hw, h⟩ := ite_some h
        cases h
        obtain ⟨a, b, rfl, ha, hb⟩ := hx.es2
        simp only [List.tail_cons, List.all_cons, List.all_nil, Bool.and_true, Bool.and_eq_true] at hw
        refine e_op (pe_slice sl_all ha (po_some hb) po_none) fun σ H Q Z ρ φ ds ρ' o e h1 h2 q => ?_
        match ds, evO_len h1, h2 with
        | [d1, d2], _, h2 =>
          obtain ⟨i, e1, h2⟩ := Option.bind_eq_some_iff.mp h2
          obtain ⟨i', rfl, rfl⟩ := part_some e1
          have := opsC (K := fun vs H2 => match vs with | [x, y] => rSlAll X.K x (some i') none H2 Q | _ => False) (Ps := [fun _ _ => True, fun v _ => v = .int i']) [a, b] e h1
            ⟨fun _ _ _ _ _ _ => True.intro, fun _ _ _ _ => True.intro, fun _ _ _ v _ r => r, fun k hk => absurd hk (notBw_ne hw k), True.intro⟩ fun vs Z1 H1 φ1 st e1 ra => by
            obtain ⟨v, vs, rfl, r1, w, ws, rfl, r2, rfl⟩ := ra
            show rSlAll X.K v (some i') none H1 Q
            rw [g.k]
            exact sl_srv e1.sub r1 h2 (q.cont st e1)
          refine rdO_mono this fun v H1 ⟨_, h3⟩ => rdO_mono h3 fun w H2 ⟨h4, h5⟩ => ⟨i', h4, h5⟩
      · -- to
        obtain ⟨hw, h⟩ := ite_some h
        cases h
        obtain ⟨a, b, rfl, ha, hb⟩ := hx.es2
        simp only [List.tail_cons, List.all_cons, List.all_nil, Bool.and_true, Bool.and_eq_true] at hw
        refine e_op (pe_slice sl_all ha po_none (po_some hb)) fun σ H Q Z ρ φ ds ρ' o e h1 h2 q => ?_
        match ds, evO_len h1, h2 with
        | [d1, d2], _, h2 =>
          obtain ⟨i, e1, h2⟩ := Option.bind_eq_some_iff.mp h2
          obtain ⟨i', rfl, rfl⟩ := part_some e1
          have := opsC (K := fun vs H2 => match vs with | [x, y] => rSlAll X.K x none (some i') H2 Q | _ => False) (Ps := [fun _ _ => True, fun v _ => v = .int i']) [a, b] e h1
            ⟨fun _ _ _ _ _ _ => True.intro, fun _ _ _ _ => True.intro, fun _ _ _ v _ r => r, fun k hk => absurd hk (notBw_ne hw k), True.intro⟩ fun vs Z1 H1 φ1 st e1 ra => by
            obtain ⟨v, vs, rfl, r1, w, ws, rfl, r2, rfl⟩ := ra
            show rSlAll X.K v none (some i') H1 Q
            rw [g.k]
            exact sl_srv e1.sub r1 h2 (q.cont st e1)
          refine rdO_mono this fun v H1 ⟨_, h3⟩ => rdO_mono h3 fun w H2 ⟨h4, h5⟩ => ⟨i', h4, h5⟩
      · cases h
        obtain ⟨a, rfl, ha⟩ := hx.es1
        refine e_op1 (t := fun ta => tSl (rSlAll X.K) ta tNoPart tNoPart) (r := fun v H Q => rSlAll X.K v none none H Q) ha (fun ta h3 => pe_slice sl_all h3 po_none po_none) (fun ta σ H Q q => q) fun Z H x dx o Q sb hx e c => ?_
        rw [g.k]
        exact sl_srv sb hx e c
      · cases h
    · obtain ⟨⟨h1, h2⟩, h⟩ := ite_some h
      cases h
      subst h1
      obtain ⟨a, b, rfl, ha, hb⟩ := hx.es2
      exact e_op2 (t := fun ta tb => tOp (rIxA X.K) ta tb) ha hb (fun ta tb h3 h4 => pe_ix (ix_seq.or (ix_dct (by have := g.hu; omega))) h3 h4 (plainIx h2)) (fun _ _ _ _ _ q => q) (idx_srv g.k)
  · -- a field
    split at h
    · rename_i k
      obtain ⟨⟨h1, h2⟩, h⟩ := ite_some h
      cases h
      obtain ⟨a, rfl, ha⟩ := hx.es1
      refine e_op1 (t := fun ta => tFld X.K ta _) (r := fun x H Q => ∃ a C dx fs v, x = .ref a ∧ H a = some (.ins C dx fs) ∧ Cls X.K C ∧ NoAttr X.K C _ ∧ fs.lookup _ = some v ∧ Q v H) ha (fun ta h3 => pe_fld h3 (base_ok h2)) (fun ta σ H Q q => q) fun Z H x dx o Q sb hx e c => ?_
      have e : fldD k dx = some o := e
      cases dx with
      | ins cl fs =>
        obtain ⟨d, e1, rfl⟩ := map_some e
        obtain ⟨a, dx, xs, rfl, r1, r2, r3⟩ := hx.ofval rfl
        obtain ⟨v, l1, l2⟩ := RpF.get g h1 r3 e1
        rw [g.nc] at r2
        obtain ⟨hc, _⟩ := g.cls cl _ (List.getElem?_eq_getElem r2)
        exact ⟨a, M.cl cl, dx, xs, v, rfl, sb _ _ r1, hc.cls, hc.attr _ (List.mem_of_getElem? h1), l1, c.val sb l2⟩
      | _ => cases e
    · cases h
  · -- a built-in of one value
    obtain ⟨⟨h1, h2, h3, h4, h5⟩, h⟩ := ite_some h
    cases h
    obtain ⟨a, rfl, ha⟩ := hx.es1
    obtain ⟨g1, g2, g3⟩ := g.gl h2
    rcases h3 with h3 | h3
    · obtain ⟨id, r, b1, b2, b3⟩ := bi_ok g.k g.calm p _ h3 h4 h5
      have hm := g.blt _ (bi_mem h3)
      exact e_op1 (t := fun ta => tCB r (tCons ta tNil)) (r := fun v H Q => r [v] H Q) ha (fun ta h3 => pe_callB b2 g1 hm b1 (pa_cons h3 pa_nil (starEach_of h1)) g3 g2 (starEach_of h1) rfl) (fun ta σ H Q q => q) b3
    · obtain ⟨id, r, b1, b2, b3⟩ := ty_ok g.k p _ h3
      have hm := g.blt _ (ty_mem h3)
      exact e_op1 (t := fun ta => tCB r (tCons ta tNil)) (r := fun v H Q => r [v] H Q) ha (fun ta h3 => pe_callTy b2 g1 hm b1 (pa_cons h3 pa_nil (starEach_of h1)) g3 g2 (starEach_of h1) rfl) (fun ta σ H Q q => q) b3
  · -- a built-in of two values
    obtain ⟨⟨h1, h2, h3⟩, h⟩ := ite_some h
    obtain ⟨g1, g2, g3⟩ := g.gl h3
    split at h
    · obtain ⟨h4, h⟩ := ite_some h
      cases h
      subst h4
      obtain ⟨a, b, rfl, ha, hb⟩ := hx.es2
      refine e_op2 (t := fun ta tb => tCB (fun xs H Q => ∃ i j, xs = [.int i, .int j] ∧ Q (.int (if j < i then j else i)) H) (tCons ta (tCons tb tNil))) (r := fun v w H Q => ∃ i j, [v, w] = [.int i, .int j] ∧ Q (.int (if j < i then j else i)) H) ha hb (fun ta tb h5 h6 => pe_callB (call_min2 g.calm) g1 (g.blt _ (by decide)) (by decide +kernel) (pa_cons h5 (pa_cons h6 pa_nil (starEach_of h2)) (starEach_of h1)) g3 g2 (starEach_of h1) (stars_none (by simp [h2]))) (fun _ _ _ _ _ q => q) ?_
      intro Z H x y dx dy o Q sb hx hy e c
      obtain ⟨i, j, rfl, rfl, e⟩ := int2_some e
      cases oi_some e
      exact ⟨i, j, by rw [hx.int, hy.int], c.val sb rfl⟩
    · obtain ⟨h4, h⟩ := ite_some h
      cases h
      subst h4
      obtain ⟨a, b, rfl, ha, hb⟩ := hx.es2
      refine e_op2 (t := fun ta tb => tCB (fun xs H Q => ∃ i j, xs = [.int i, .int j] ∧ Q (.int (if j > i then j else i)) H) (tCons ta (tCons tb tNil))) (r := fun v w H Q => ∃ i j, [v, w] = [.int i, .int j] ∧ Q (.int (if j > i then j else i)) H) ha hb (fun ta tb h5 h6 => pe_callB (call_max2 g.calm) g1 (g.blt _ (by decide)) (by decide +kernel) (pa_cons h5 (pa_cons h6 pa_nil (starEach_of h2)) (starEach_of h1)) g3 g2 (starEach_of h1) (stars_none (by simp [h2]))) (fun _ _ _ _ _ q => q) ?_
      intro Z H x y dx dy o Q sb hx hy e c
      obtain ⟨i, j, rfl, rfl, e⟩ := int2_some e
      cases oi_some e
      exact ⟨i, j, by rw [hx.int, hy.int], c.val sb rfl⟩
    · -- isinstance
      rename_i x1 x0 pos1 a0 pos0 p0 b0 t y pos _
      obtain ⟨⟨h4, h5, h6⟩, h⟩ := ite_some h
      cases h
      subst h4
      obtain ⟨a, rfl, ha⟩ := hx.es1
      obtain ⟨y1, y2, y3⟩ := g.gl h5
      have key : ∀ (cv : V) (u : Value), PE X (.Name y pos) (tC cv) → ClsV cv u → (∀ Z H x dx, Sub Z H → RpW M Z H dx x → ∃ tv, TyX M.K H x tv ∧ PySem.W.kitOne M.K tv u = some (isTy1 t dx)) → PE X (.Call (.Name "isinstance" pos1) [a0, .Name y pos] [] pos0) (tM M (ev G CL C (.op (.isi [t]) [a]) false)) := by
        intro cv u hcv hu ht
        refine e_op1 (t := fun ta => tCB (rIsi X.K) (tCons ta (tCons (tC cv) tNil))) (r := fun v H Q => rIsi X.K [v, cv] H Q) ha (fun ta h7 => pe_callB call_isi g1 (g.blt _ (by decide)) boot_isinstance (pa_cons h7 (pa_cons hcv pa_nil rfl) (starEach_of h1)) g3 g2 (starEach_of h1) rfl) (fun _ _ _ _ q => q) ?_
        intro Z H x dx o Q sb hx e c
        have e : ob ([t].any fun t => isTy1 t dx) = some o := e
        cases ob_some e
        obtain ⟨tv, t1, t2⟩ := ht Z H x dx sb hx
        rw [g.k]
        exact ⟨x, cv, tv, u, _, rfl, hu, t1, t2, c.val sb (by simp [Rp])⟩
      rcases h6 with h6 | ⟨h6, h7⟩
      · obtain ⟨nm, k1, k2, k3, k4⟩ := isTy_kit (K := M.K) h6
        refine key (.ty nm) (.type nm) (pe_bltn y1 (g.blt _ ?_) k1 rfl y3 y2) (.ty nm) fun Z H x dx sb hx => ?_
        · match t, h6 with
          | 0, h6 => cases h6; decide
          | 1, h6 => cases h6; decide
          | 2, h6 => cases h6; decide
          | 3, h6 => cases h6; decide
          | 4, h6 => cases h6; decide
          | 5, h6 => cases h6; decide
        · by_cases hd : ∃ c fs, dx = .ins c fs
          · obtain ⟨c, fs, rfl⟩ := hd
            have r2 : c < T.cnm.length := by
              obtain ⟨_, _, _, _, _, r2, _⟩ := hx.ofval rfl
              rw [← g.nc]; exact r2
            obtain ⟨hc, _⟩ := g.cls c _ (List.getElem?_eq_getElem r2)
            rw [g.k] at hc
            exact ⟨_, tyx_ins hx sb hc, by rw [k4]; exact hc.k2 nm k2⟩
          · have hd : ∀ c fs, dx ≠ .ins c fs := fun c fs e => hd ⟨c, fs, e⟩
            exact ⟨_, tyx hx sb hd, k3 dx hd⟩
      · obtain ⟨hc, hm⟩ := g.cls _ _ h7
        rw [g.k] at hc
        refine key (.ref (M.cl (t - 100))) (.ref (M.cl (t - 100))) (pe_glob y1 hm rfl y2) (.own _) fun Z H x dx sb hx => ?_
        by_cases hd : ∃ c fs, dx = .ins c fs
        · obtain ⟨c, fs, rfl⟩ := hd
          have r2 : c < T.cnm.length := by
            obtain ⟨_, _, _, _, _, r2, _⟩ := hx.ofval rfl
            rw [← g.nc]; exact r2
          obtain ⟨hc', _⟩ := g.cls c _ (List.getElem?_eq_getElem r2)
          rw [g.k] at hc'
          refine ⟨_, tyx_ins hx sb hc', ?_⟩
          rw [hc'.k3 (t - 100) (List.getElem?_eq_some_iff.mp h7).1]
          have : isTy1 t (.ins c fs) = (c == t - 100) := by
            have e1 : isTy1 t (.ins c fs) = (t == c + 100) := by
              unfold isTy1
              split <;> first | rfl | (rename_i h; cases h) | skip
              all_goals first | (exfalso; omega) | simp_all
            rw [e1, Bool.eq_iff_iff]
            simp
            omega
          rw [this]
        · have hd : ∀ c fs, dx ≠ .ins c fs := fun c fs e => hd ⟨c, fs, e⟩
          refine ⟨_, tyx hx sb hd, ?_⟩
          rw [hc.k1 (tyV dx) (by cases dx <;> first | (unfold tyV; simp; done) | exact absurd rfl (hd _ _))]
          have : isTy1 t dx = false := by
            cases dx <;> first | exact absurd rfl (hd _ _) | (unfold isTy1; split <;> first | rfl | (exfalso; omega) | (rename_i h; cases h) | simp_all)
          rw [this]
    · cases h
  · cases h
end
end EV

namespace EV
open PyProof.Rows PySem L2 PySem.Spec RZ RT
section
variable {M : Mt} {T : Stat} {G : List D} {CL : List (List Nat)} {C : CallF} {n : Nat} {X : Cx} {s : Sc}
theorem PI.or {tg e : Expr} {w1 w2 : TI} (h1 : PI X tg e w1) (h2 : PI X tg e w2) : PI X tg e (fun σ H R => w1 σ H R ∨ w2 σ H R) :=
  ⟨fun pins s σ H R I h => h.elim (h1.run pins s σ H R I) (h2.run pins s σ H R I)⟩
theorem PI.weak {tg e : Expr} {w1 w2 : TI} (h1 : PI X tg e w1) (h : ∀ σ H R, w2 σ H R → w1 σ H R) : PI X tg e w2 := ⟨fun pins s σ H R I q => h1.run pins s σ H R I (h σ H R q)⟩
/-- J yields the things xs, one after the other -/
structure ItD (M : Mt) (J : It) (Z0 : Hp) (xs : List D) : Prop where
  go : ∀ i H, Sub Z0 H → i < xs.length → J.go i H
  stop : ∀ i H, Sub Z0 H → xs.length ≤ i → J.stop i H
  yld : ∀ i H v H' Z d, Sub Z0 Z → Sub Z H → xs[i]? = some d → J.yld i H v H' → ∃ Z', Ext Z H Z' H' [] ∧ Rp M Z' d v
def tI (M : Mt) (G : List D) (CL : List (List Nat)) (C : CallF) (k : ItK) (es : List E) : TI := fun σ H R => ∃ Z ρ φ ds ρ' xs, EOk M Z H σ ρ φ ∧ evV G CL C es ρ = some (ds, ρ') ∧ iterD k ds = some xs ∧
  ∀ J Z' H' φ', Stp Z H (Own ρ φ) Z' H' (Own ρ' φ') → EOk M Z' H' σ ρ' φ' → ItD M J Z' xs → R J H'
theorem itd_list {Z : Hp} {a : Addr} {vs : List V} {ds : List D} (h : SqL M.K Z a vs) (r : RpA M Z ds vs) : ItD M (Itl M.K a) Z ds where
  go := fun i H sb hi => by
    have : i < vs.length := by rw [r.length]; exact hi
    exact ⟨vs, vs[i], sb.sl h, by simp [this]⟩
  stop := fun i H sb hi => ⟨vs, sb.sl h, by rw [r.length]; exact hi⟩
  yld := fun i H v H' Z1 d s1 s2 hd ⟨e, hy⟩ => by
    subst e
    obtain ⟨w, h1, h2⟩ := r.get hd
    have := hy vs (s2.sl (s1.sl h))
    rw [h1] at this
    cases this
    exact ⟨Z1, .refl s2, Rp.mono s1 _ _ h2⟩
theorem itd_tup {Z : Hp} {a : Addr} {vs : List V} {ds : List D} (h : SqT M.K Z a vs) (r : RpA M Z ds vs) : ItD M (Itt M.K a) Z ds where
  go := fun i H sb hi => by
    have : i < vs.length := by rw [r.length]; exact hi
    exact ⟨vs, vs[i], sb.st h, by simp [this]⟩
  stop := fun i H sb hi => ⟨vs, sb.st h, by rw [r.length]; exact hi⟩
  yld := fun i H v H' Z1 d s1 s2 hd ⟨e, hy⟩ => by
    subst e
    obtain ⟨w, h1, h2⟩ := r.get hd
    have := hy vs (s2.st (s1.st h))
    rw [h1] at this
    cases this
    exact ⟨Z1, .refl s2, Rp.mono s1 _ _ h2⟩
theorem itd_str {Z : Hp} {x : Str} : ItD M (Its x) Z (x.cps.toList.map sign) where
  go := fun i H _ hi => by show i < x.cps.size; simpa using hi
  stop := fun i H _ hi => by show x.cps.size ≤ i; simpa using hi
  yld := fun i H v H' Z1 d s1 s2 hd ⟨e, c, hc, hv⟩ => by
    subst e hv
    have : x.cps.toList[i]? = some c := by simpa using hc
    rw [List.getElem?_map, this] at hd
    cases hd
    exact ⟨Z1, .refl s2, rfl⟩
theorem rngL_get {lo : Int} {n i : Nat} {d : D} (h : (rngL lo n)[i]? = some d) : i < n ∧ d = .int (lo + i) := by
  unfold rngL at h
  rw [List.getElem?_map] at h
  by_cases hi : i < n
  · rw [List.getElem?_range hi] at h
    exact ⟨hi, (Option.some.inj h).symm⟩
  · rw [List.getElem?_eq_none (by simp; omega)] at h
    cases h
theorem itd_rng {Z : Hp} {lo : Int} {n : Nat} : ItD M (Itr lo n) Z (rngL lo n) where
  go := fun i H _ hi => by show i < n; simpa [rngL] using hi
  stop := fun i H _ hi => by show n ≤ i; simpa [rngL] using hi
  yld := fun i H v H' Z1 d s1 s2 hd ⟨e, hv⟩ => by
    subst e hv
    obtain ⟨_, rfl⟩ := rngL_get hd
    exact ⟨Z1, .refl s2, rfl⟩
theorem enumL_get : ∀ {xs : List D} {k i : Nat} {d : D}, (enumL k xs)[i]? = some d → ∃ x, xs[i]? = some x ∧ d = .tup [.int ((k + i : Nat) : Int), x]
  | [], _, _, _, h => by simp [enumL] at h
  | x :: xs, k, 0, d, h => by simp [enumL] at h; exact ⟨x, rfl, by simpa using h.symm⟩
  | x :: xs, k, i + 1, d, h => by
    simp [enumL] at h
    obtain ⟨y, h1, h2⟩ := enumL_get h
    exact ⟨y, by simpa using h1, by rw [h2, show k + 1 + i = k + (i + 1) by omega]⟩
theorem enumL_len : ∀ (xs : List D) (k : Nat), (enumL k xs).length = xs.length
  | [], _ => rfl
  | x :: xs, k => by simp [enumL, enumL_len xs]
/-- a new tuple -/
theorem ext_tup {Z H : Hp} {p : Addr} {ds : List D} {vs : List V} (s : Sub Z H) (hp : H p = none) (r : RpA M Z ds vs) : ∃ Z', Ext Z H Z' (upd H p (.tup vs)) [] ∧ Rp M Z' (.tup ds) (.ref p) := by
  have := new_tup (Q := fun v H' => ∃ Z', Ext Z H Z' H' [] ∧ Rp M Z' (.tup ds) v) s (fun v Z' H' f x r => by
    obtain ⟨rfl, r⟩ := r
    exact ⟨Z', x, r⟩) r hp
  exact this
theorem itd_enum {Z : Hp} {a : Addr} {vs : List V} {ds : List D} (h : SqL M.K Z a vs) (r : RpA M Z ds vs) : ItD M (Ite M.K a) Z (enumL 0 ds) where
  go := fun i H sb hi => by
    rw [enumL_len] at hi
    have : i < vs.length := by rw [r.length]; exact hi
    exact ⟨vs, vs[i], sb.sl h, by simp [this]⟩
  stop := fun i H sb hi => ⟨vs, sb.sl h, by rw [r.length]; rw [enumL_len] at hi; exact hi⟩
  yld := fun i H v H' Z1 d s1 s2 hd ⟨p, x, e1, e2, e3, hy⟩ => by
    subst e1 e3
    obtain ⟨d', h1, rfl⟩ := enumL_get hd
    obtain ⟨w, h2, h3⟩ := r.get h1
    have := hy vs (s2.sl (s1.sl h))
    rw [h2] at this
    cases this
    rw [Nat.zero_add]
    exact ext_tup s2 e2 ⟨.int i, [_], rfl, rfl, _, [], rfl, Rp.mono s1 _ _ h3, rfl⟩
theorem itd_enumT {Z : Hp} {a : Addr} {vs : List V} {ds : List D} (h : SqT M.K Z a vs) (r : RpA M Z ds vs) : ItD M (IteT M.K a) Z (enumL 0 ds) where
  go := fun i H sb hi => by
    rw [enumL_len] at hi
    have : i < vs.length := by rw [r.length]; exact hi
    exact ⟨vs, vs[i], sb.st h, by simp [this]⟩
  stop := fun i H sb hi => ⟨vs, sb.st h, by rw [r.length]; rw [enumL_len] at hi; exact hi⟩
  yld := fun i H v H' Z1 d s1 s2 hd ⟨p, x, e1, e2, e3, hy⟩ => by
    subst e1 e3
    obtain ⟨d', h1, rfl⟩ := enumL_get hd
    obtain ⟨w, h2, h3⟩ := r.get h1
    have hx := hy vs (s2.st (s1.st h))
    rw [h2] at hx
    cases hx
    rw [Nat.zero_add]
    exact ext_tup s2 e2 ⟨.int i, [_], rfl, rfl, _, [], rfl, Rp.mono s1 _ _ h3, rfl⟩
theorem zipL_get : ∀ {xs ys : List D} {i : Nat} {d : D}, (zipL xs ys)[i]? = some d → ∃ x y, xs[i]? = some x ∧ ys[i]? = some y ∧ d = .tup [x, y]
  | [], ys, _, _, h => by simp [zipL] at h
  | x :: xs, [], _, _, h => by simp [zipL] at h
  | x :: xs, y :: ys, 0, d, h => by simp [zipL] at h; exact ⟨x, y, rfl, rfl, h.symm⟩
  | x :: xs, y :: ys, i + 1, d, h => by
    simp [zipL] at h
    obtain ⟨u, w, h1, h2, h3⟩ := zipL_get h
    exact ⟨u, w, by simpa using h1, by simpa using h2, h3⟩
theorem zipL_len : ∀ (xs ys : List D), (zipL xs ys).length = min xs.length ys.length
  | [], ys => by simp [zipL]
  | x :: xs, [] => by simp [zipL]
  | x :: xs, y :: ys => by simp [zipL, zipL_len xs ys]
theorem itd_zip {Z : Hp} {a b : Addr} {vs ws : List V} {ds es : List D} (h : SqL M.K Z a vs) (r : RpA M Z ds vs) (h' : SqL M.K Z b ws) (r' : RpA M Z es ws) : ItD M (Itz M.K a b) Z (zipL ds es) where
  go := fun i H sb hi => by
    rw [zipL_len] at hi
    have h1 : i < vs.length := by rw [r.length]; omega
    have h2 : i < ws.length := by rw [r'.length]; omega
    exact ⟨vs, ws, vs[i], ws[i], sb.sl h, sb.sl h', by simp [h1], by simp [h2]⟩
  stop := fun i H sb hi => ⟨vs, ws, sb.sl h, sb.sl h', by rw [r.length, r'.length]; rw [zipL_len] at hi; omega⟩
  yld := fun i H v H' Z1 d s1 s2 hd ⟨p, x, y, e1, e2, e3, hx, hy⟩ => by
    subst e1 e3
    obtain ⟨d1, d2, h1, h2, rfl⟩ := zipL_get hd
    obtain ⟨w, h3, h4⟩ := r.get h1
    obtain ⟨u, h5, h6⟩ := r'.get h2
    have q1 := hx vs (s2.sl (s1.sl h))
    have q2 := hy ws (s2.sl (s1.sl h'))
    rw [h3] at q1
    rw [h5] at q2
    cases q1
    cases q2
    exact ext_tup s2 e2 ⟨_, [_], rfl, Rp.mono s1 _ _ h4, _, [], rfl, Rp.mono s1 _ _ h6, rfl⟩
theorem itd_zipT {Z : Hp} {a b : Addr} {vs ws : List V} {ds es : List D} (h : SqT M.K Z a vs) (r : RpA M Z ds vs) (h' : SqT M.K Z b ws) (r' : RpA M Z es ws) : ItD M (ItzT M.K a b) Z (zipL ds es) where
  go := fun i H sb hi => by
    rw [zipL_len] at hi
    have h1 : i < vs.length := by rw [r.length]; omega
    have h2 : i < ws.length := by rw [r'.length]; omega
    exact ⟨vs, ws, vs[i], ws[i], sb.st h, sb.st h', by simp [h1], by simp [h2]⟩
  stop := fun i H sb hi => ⟨vs, ws, sb.st h, sb.st h', by rw [r.length, r'.length]; rw [zipL_len] at hi; omega⟩
  yld := fun i H v H' Z1 d s1 s2 hd ⟨p, x, y, e1, e2, e3, hx, hy⟩ => by
    subst e1 e3
    obtain ⟨d1, d2, h1, h2, rfl⟩ := zipL_get hd
    obtain ⟨w, h3, h4⟩ := r.get h1
    obtain ⟨u, h5, h6⟩ := r'.get h2
    have q1 := hx vs (s2.st (s1.st h))
    have q2 := hy ws (s2.st (s1.st h'))
    rw [h3] at q1
    rw [h5] at q2
    cases q1
    cases q2
    exact ext_tup s2 e2 ⟨_, [_], rfl, Rp.mono s1 _ _ h4, _, [], rfl, Rp.mono s1 _ _ h6, rfl⟩
theorem rev_get {α : Type} {xs : List α} {i : Nat} {d : α} (h : xs.reverse[i]? = some d) : i < xs.length ∧ xs[xs.length - 1 - i]? = some d := by
  have hi : i < xs.length := by
    have := (List.getElem?_eq_some_iff.mp h).1
    simpa using this
  rw [List.getElem?_reverse hi] at h
  exact ⟨hi, h⟩
theorem itd_rev {Z : Hp} {a : Addr} {vs : List V} {ds : List D} (h : SqL M.K Z a vs) (r : RpA M Z ds vs) : ItD M (Itv M.K a vs.length) Z ds.reverse where
  go := fun i H sb hi => by
    have : i < vs.length := by rw [r.length]; simpa using hi
    exact ⟨this, vs, vs[vs.length - 1 - i], sb.sl h, by rw [List.getElem?_eq_getElem]⟩
  stop := fun i H sb hi => by show vs.length ≤ i; rw [r.length]; simpa using hi
  yld := fun i H v H' Z1 d s1 s2 hd ⟨e, hy⟩ => by
    subst e
    obtain ⟨h1, h2⟩ := rev_get hd
    rw [← r.length] at h2
    obtain ⟨w, h3, h4⟩ := r.get h2
    have := hy vs (s2.sl (s1.sl h))
    rw [h3] at this
    cases this
    exact ⟨Z1, .refl s2, Rp.mono s1 _ _ h4⟩
theorem itd_revT {Z : Hp} {a : Addr} {vs : List V} {ds : List D} (h : SqT M.K Z a vs) (r : RpA M Z ds vs) : ItD M (ItvT M.K a vs.length) Z ds.reverse where
  go := fun i H sb hi => by
    have : i < vs.length := by rw [r.length]; simpa using hi
    exact ⟨this, vs, vs[vs.length - 1 - i], sb.st h, by rw [List.getElem?_eq_getElem]⟩
  stop := fun i H sb hi => by show vs.length ≤ i; rw [r.length]; simpa using hi
  yld := fun i H v H' Z1 d s1 s2 hd ⟨e, hy⟩ => by
    subst e
    obtain ⟨h1, h2⟩ := rev_get hd
    rw [← r.length] at h2
    obtain ⟨w, h3, h4⟩ := r.get h2
    have := hy vs (s2.st (s1.st h))
    rw [h3] at this
    cases this
    exact ⟨Z1, .refl s2, Rp.mono s1 _ _ h4⟩
theorem PEs.vs1 {x : Expr} {es : List E} (h : PEs X [x] (es.map (rdV M G CL C))) : ∃ a, es = [a] ∧ PE X x (rdV M G CL C a) := by
  obtain ⟨t, e, h⟩ := h.one
  obtain ⟨a, rfl, rfl⟩ := map1 e
  exact ⟨a, rfl, h⟩
theorem PEs.vs2 {x y : Expr} {es : List E} (h : PEs X [x, y] (es.map (rdV M G CL C))) : ∃ a b, es = [a, b] ∧ PE X x (rdV M G CL C a) ∧ PE X y (rdV M G CL C b) := by
  obtain ⟨t, u, e, h1, h2⟩ := h.two
  obtain ⟨a, b, rfl, rfl, rfl⟩ := map2 e
  exact ⟨a, b, rfl, h1, h2⟩
theorem evV_len : ∀ {es : List E} {ρ ρ' : Env} {ds : List D}, evV G CL C es ρ = some (ds, ρ') → ds.length = es.length
  | [], _, _, _, h => by simp only [evV, Option.some.injEq, Prod.mk.injEq] at h; obtain ⟨rfl, _⟩ := h; rfl
  | e :: es, ρ, ρ', ds, h => by
    unfold evV at h
    split at h
    · cases h
    · split at h
      · cases h
      · rename_i q; cases h; simp [evV_len q]
theorem vals1_ok {a : E} {Z H : Hp} {σ : L2.St} {ρ ρ' : Env} {φ : Nat → List Addr} {ds : List D} {K : V → Hp → Prop} (e : EOk M Z H σ ρ φ) (h : evV G CL C [a] ρ = some (ds, ρ'))
    (k : ∀ d v Z' H' φ', ds = [d] → Stp Z H (Own ρ φ) Z' H' (Own ρ' φ') → EOk M Z' H' σ ρ' φ' → Rp M Z' d v → K v H') : rdV M G CL C a σ H K :=
  vals_ok (K := fun vs H => match vs with | [v] => K v H | _ => False) [a] e h fun vs Z' H' φ' st e' r => by
    match ds, evV_len h, r with
    | [d], _, r =>
      obtain ⟨v, ws, rfl, r1, rfl⟩ := r
      exact k d v Z' H' φ' rfl st e' r1
theorem vals2_ok {a b : E} {Z H : Hp} {σ : L2.St} {ρ ρ' : Env} {φ : Nat → List Addr} {ds : List D} {K : V → V → Hp → Prop} (e : EOk M Z H σ ρ φ) (h : evV G CL C [a, b] ρ = some (ds, ρ'))
    (k : ∀ d v d' v' Z' H' φ', ds = [d, d'] → Stp Z H (Own ρ φ) Z' H' (Own ρ' φ') → EOk M Z' H' σ ρ' φ' → Rp M Z' d v → Rp M Z' d' v' → K v v' H') : rdV M G CL C a σ H fun v H1 => rdV M G CL C b σ H1 fun w H2 => K v w H2 :=
  vals_ok (K := fun vs H => match vs with | [v, w] => K v w H | _ => False) [a, b] e h fun vs Z' H' φ' st e' r => by
    match ds, evV_len h, r with
    | [d, d'], _, r =>
      obtain ⟨v, ws, rfl, r1, w, us, rfl, r2, rfl⟩ := r
      exact k d v d' w Z' H' φ' rfl st e' r1 r2
theorem it_ok (g : Gd M T G CL C n X s) {k : ItK} {es : List E} {tg e : Expr} {xs : List Expr} (h : itShape s tg k e = some xs) (hx : PEs X xs (es.map (rdV M G CL C))) : PI X tg e (tI M G CL C k es) := by
  cases k with
  | plain =>
    obtain ⟨_, h⟩ := ite_some h
    cases h
    obtain ⟨a, rfl, ha⟩ := hx.vs1
    refine PI.weak (PI.or (pi_list ha) (PI.or (pi_tup ha) (pi_str ha))) fun σ H R ⟨Z, ρ, φ, ds, ρ', xs, e, h1, h2, q⟩ => ?_
    match ds, evV_len h1, h2 with
    | [.lst ys], _, h2 =>
      cases h2
      refine .inl (vals1_ok e h1 fun d v Z' H' φ' hd st e' r => ?_)
      cases hd
      obtain ⟨a, vs, rfl, r1, r2⟩ := r
      rw [g.k]
      exact ⟨a, rfl, ⟨vs, e'.sub.sl r1⟩, q _ Z' H' φ' st e' (itd_list r1 r2)⟩
    | [.tup ys], _, h2 =>
      cases h2
      refine .inr (.inl (vals1_ok e h1 fun d v Z' H' φ' hd st e' r => ?_))
      cases hd
      obtain ⟨a, vs, rfl, r1, r2⟩ := r
      rw [g.k]
      exact ⟨a, rfl, ⟨vs, e'.sub.st r1.sq⟩, q _ Z' H' φ' st e' (itd_tup r1.sq r2)⟩
    | [.str z], _, h2 =>
      cases h2
      refine .inr (.inr (vals1_ok e h1 fun d v Z' H' φ' hd st e' r => ?_))
      cases hd
      exact ⟨z, r, q _ Z' H' φ' st e' itd_str⟩
  | rng1 =>
    simp only [itShape] at h
    split at h
    · obtain ⟨⟨hxx, h1, h2⟩, hh⟩ := ite_some h
      subst hxx
      cases hh
      obtain ⟨a, rfl, ha⟩ := hx.vs1
      refine PI.weak (pi_range1 (g.gl h1).1 (g.blt _ (by decide)) (pa_cons ha pa_nil (starEach_of h2)) (starEach_of h2)) fun σ H R ⟨Z, ρ, φ, ds, ρ', xs, e, h1, h2, q⟩ => ?_
      match ds, evV_len h1, h2 with
      | [.int j], _, h2 =>
        obtain ⟨hj, h2⟩ := ite_some h2
        cases h2
        refine vals1_ok (K := fun v H1 => ∃ j : Int, [v] = [.int j] ∧ -(2 ^ 62) ≤ j ∧ j < 2 ^ 62 ∧ R (Itr 0 j.toNat) H1) e h1 fun d v Z' H' φ' hd st e' r => ?_
        cases hd
        exact ⟨j, by rw [show v = V.int j from r], hj.1, hj.2, q _ Z' H' φ' st e' itd_rng⟩
    · cases h
  | rng2 =>
    simp only [itShape] at h
    split at h
    · obtain ⟨⟨hxx, h1, h2, h3⟩, hh⟩ := ite_some h
      subst hxx
      cases hh
      obtain ⟨a, b, rfl, ha, hb⟩ := hx.vs2
      refine PI.weak (pi_range2 (g.gl h1).1 (g.blt _ (by decide)) (pa_cons ha (pa_cons hb pa_nil (starEach_of h3)) (starEach_of h2)) (by rw [starEach_of h2, starEach_of h3]; rfl) (starEach_of h3)) fun σ H R ⟨Z, ρ, φ, ds, ρ', xs, e, h1, h2, q⟩ => ?_
      match ds, evV_len h1, h2 with
      | [.int i, .int j], _, h2 =>
        obtain ⟨hj, h2⟩ := ite_some h2
        cases h2
        refine vals2_ok (K := fun v w H1 => ∃ i j : Int, [v, w] = [.int i, .int j] ∧ (-(2 ^ 62) ≤ i ∧ i < 2 ^ 62 ∧ -(2 ^ 62) ≤ j ∧ j < 2 ^ 62) ∧ R (Itr i (j - i).toNat) H1) e h1 fun d v d' v' Z' H' φ' hd st e' r r' => ?_
        cases hd
        exact ⟨i, j, by rw [show v = V.int i from r, show v' = V.int j from r'], hj, q _ Z' H' φ' st e' itd_rng⟩
    · cases h
  | enum =>
    simp only [itShape] at h
    split at h
    · obtain ⟨⟨hxx, h1, h2⟩, hh⟩ := ite_some h
      subst hxx
      cases hh
      obtain ⟨a, rfl, ha⟩ := hx.vs1
      refine PI.weak (pi_enumA (g.gl h1).1 (g.blt _ (by decide)) (pa_cons ha pa_nil (starEach_of h2)) (starEach_of h2)) fun σ H R ⟨Z, ρ, φ, ds, ρ', xs, e, h1, h2, q⟩ => ?_
      match ds, evV_len h1, h2 with
      | [.lst ys], _, h2 =>
        cases h2
        refine vals1_ok (K := fun v H1 => ∃ a xs, [v] = [.ref a] ∧ ((SqL X.K H1 a xs ∧ R (Ite X.K a) H1) ∨ (SqT X.K H1 a xs ∧ R (IteT X.K a) H1))) e h1 fun d v Z' H' φ' hd st e' r => ?_
        cases hd
        obtain ⟨a, vs, rfl, r1, r2⟩ := r
        rw [g.k]
        exact ⟨a, vs, rfl, .inl ⟨e'.sub.sl r1, q _ Z' H' φ' st e' (itd_enum r1 r2)⟩⟩
      | [.tup ys], _, h2 =>
        cases h2
        refine vals1_ok (K := fun v H1 => ∃ a xs, [v] = [.ref a] ∧ ((SqL X.K H1 a xs ∧ R (Ite X.K a) H1) ∨ (SqT X.K H1 a xs ∧ R (IteT X.K a) H1))) e h1 fun d v Z' H' φ' hd st e' r => ?_
        cases hd
        obtain ⟨a, vs, rfl, r1, r2⟩ := r
        rw [g.k]
        exact ⟨a, vs, rfl, .inr ⟨e'.sub.st r1.sq, q _ Z' H' φ' st e' (itd_enumT r1.sq r2)⟩⟩
    · cases h
  | zip =>
    simp only [itShape] at h
    split at h
    · obtain ⟨⟨hxx, h1, h2, h3⟩, hh⟩ := ite_some h
      subst hxx
      cases hh
      obtain ⟨a, b, rfl, ha, hb⟩ := hx.vs2
      refine PI.weak (pi_zipA (g.gl h1).1 (g.blt _ (by decide)) (pa_cons ha (pa_cons hb pa_nil (starEach_of h3)) (starEach_of h2)) (starEach_of h2) (stars_none (by simp [h3]))) fun σ H R ⟨Z, ρ, φ, ds, ρ', xs, e, h1, h2, q⟩ => ?_
      match ds, evV_len h1, h2 with
      | [.lst ys, .lst zs], _, h2 =>
        cases h2
        refine vals2_ok (K := fun v w H1 => ∃ a b xs ys, [v, w] = [.ref a, .ref b] ∧ ((SqL X.K H1 a xs ∧ SqL X.K H1 b ys ∧ R (Itz X.K a b) H1) ∨ (SqT X.K H1 a xs ∧ SqT X.K H1 b ys ∧ R (ItzT X.K a b) H1))) e h1 fun d v d' v' Z' H' φ' hd st e' r r' => ?_
        cases hd
        obtain ⟨a, vs, rfl, r1, r2⟩ := r
        obtain ⟨b, ws, rfl, r3, r4⟩ := r'
        rw [g.k]
        exact ⟨a, b, vs, ws, rfl, .inl ⟨e'.sub.sl r1, e'.sub.sl r3, q _ Z' H' φ' st e' (itd_zip r1 r2 r3 r4)⟩⟩
      | [.tup ys, .tup zs], _, h2 =>
        cases h2
        refine vals2_ok (K := fun v w H1 => ∃ a b xs ys, [v, w] = [.ref a, .ref b] ∧ ((SqL X.K H1 a xs ∧ SqL X.K H1 b ys ∧ R (Itz X.K a b) H1) ∨ (SqT X.K H1 a xs ∧ SqT X.K H1 b ys ∧ R (ItzT X.K a b) H1))) e h1 fun d v d' v' Z' H' φ' hd st e' r r' => ?_
        cases hd
        obtain ⟨a, vs, rfl, r1, r2⟩ := r
        obtain ⟨b, ws, rfl, r3, r4⟩ := r'
        rw [g.k]
        exact ⟨a, b, vs, ws, rfl, .inr ⟨e'.sub.st r1.sq, e'.sub.st r3.sq, q _ Z' H' φ' st e' (itd_zipT r1.sq r2 r3.sq r4)⟩⟩
    · cases h
  | rev =>
    simp only [itShape] at h
    split at h
    · obtain ⟨⟨hxx, h1, h2⟩, hh⟩ := ite_some h
      subst hxx
      cases hh
      obtain ⟨a, rfl, ha⟩ := hx.vs1
      refine PI.weak (pi_revA (g.gl h1).1 (g.blt _ (by decide)) ha (starEach_of h2)) fun σ H R ⟨Z, ρ, φ, ds, ρ', xs, e, h1, h2, q⟩ => ?_
      match ds, evV_len h1, h2 with
      | [.lst ys], _, h2 =>
        cases h2
        refine vals1_ok e h1 fun d v Z' H' φ' hd st e' r => ?_
        cases hd
        obtain ⟨a, vs, rfl, r1, r2⟩ := r
        rw [g.k]
        exact ⟨a, vs, rfl, .inl ⟨e'.sub.sl r1, q _ Z' H' φ' st e' (itd_rev r1 r2)⟩⟩
      | [.tup ys], _, h2 =>
        cases h2
        refine vals1_ok e h1 fun d v Z' H' φ' hd st e' r => ?_
        cases hd
        obtain ⟨a, vs, rfl, r1, r2⟩ := r
        rw [g.k]
        exact ⟨a, vs, rfl, .inr ⟨e'.sub.st r1.sq, q _ Z' H' φ' st e' (itd_revT r1.sq r2)⟩⟩
    · cases h
  | items => cases h
  | vals => cases h
/-! ### targets -/
def gMany : List Nat → TGs
  | [] => gNil
  | i :: is => gCons (gName i) (gMany is)
def gT (K : PySem.W.Frag) : Tg → TG
  | .one i => gName i
  | .many is => gTup K is.length (gMany is)
theorem gs_ok (g : Gd M T G CL C n X s) : ∀ {is : List Nat} {es : List Expr}, mTgs s is es = true → PGs X es (gMany is) ∧ (assignEach es X.env).length = is.length ∧ (assignEach es X.env).findIdx? (·.1) = none
  | [], [], _ => ⟨pgs_nil, rfl, rfl⟩
  | [], _ :: _, h => by cases h
  | i :: is, e :: es, h => by
    cases e with
    | Name x p =>
      unfold mTgs at h
      rw [Bool.and_eq_true] at h
      obtain ⟨h1, h2, h3⟩ := gs_ok g h.2
      obtain ⟨l1, l2, l3, _⟩ := g.loc (pos := p) h.1
      refine ⟨pgs_cons (pg_name g.nd l1 l2 l3) h1, ?_, ?_⟩
      · show (assignEach es X.env).length + 1 = _
        rw [h2]; rfl
      · show List.findIdx? (·.1) ((false, assign (.Name x p) X.env) :: assignEach es X.env) = none
        rw [List.findIdx?_cons]
        simp [h3]
    | _ => cases h
  | _ :: _, [], h => by cases h
theorem g_ok (g : Gd M T G CL C n X s) {tg : Tg} {e : Expr} (h : mTg s tg e = true) : PG X e (gT M.K tg) := by
  unfold mTg at h
  split at h
  · obtain ⟨l1, l2, l3, _⟩ := g.loc (pos := default) h
    exact pg_name g.nd l1 l2 l3
  · obtain ⟨h1, h2, h3⟩ := gs_ok g h
    rw [← g.k]
    exact pg_tup g.calm h1 h2 h3
  · cases h
end
end EV

namespace EV
open PyProof.Rows PySem L2 PySem.Spec
section
variable {M : Mt} {T : Stat} {G : List D} {CL : List (List Nat)} {C : CallF} {n : Nat} {X : Cx} {s : Sc}
theorem setS_out : ∀ {ρ : Env} {i : Nat} {o : Option O}, ρ.length ≤ i → setS ρ i o = ρ
  | [], _, _, _ => rfl
  | _ :: _, 0, _, h => by simp at h
  | x :: r, i + 1, o, h => by
    have : r.length ≤ i := by simpa using h
    simp [setS, setS_out this]
theorem EOk.setV {Z H : Hp} {σ : L2.St} {ρ : Env} {φ : Nat → List Addr} {i : Nat} {d : D} {v : V} (e : EOk M Z H σ ρ φ) (r : Rp M Z d v) : EOk M Z H (σ.set i (some v)) (setS ρ i (some (.val d))) (fun j => if j = i then [] else φ j) := by
  by_cases hi : i < ρ.length
  · exact e.set (f := []) ⟨rfl, r⟩ hi fun a ha => absurd ha (by simp)
  · rw [setS_out (by omega), List.set_eq_of_length_le (by rw [e.len]; omega)]
    have ne : ∀ j o, getS ρ j = some o → j ≠ i := fun j o hj q => by have := getS_lt hj; omega
    refine ⟨e.sub, e.len, fun j o hj => ?_, fun a ⟨j, o, hj, hm⟩ => ?_, fun j k o u a hj hk mj mk => ?_⟩
    · simpa [ne j o hj] using e.hold j o hj
    · simp [ne j o hj] at hm; exact e.out a ⟨j, o, hj, hm⟩
    · simp [ne j o hj] at mj; simp [ne k u hk] at mk; exact e.dis j k o u a hj hk mj mk
theorem many_ok : ∀ {is : List Nat} {ds : List D} {vs : List V} {Z H : Hp} {σ : L2.St} {ρ ρ' : Env} {φ : Nat → List Addr} {K : L2.St → Hp → Prop}, bindMany is ds ρ = some ρ' → EOk M Z H σ ρ φ → RpA M Z ds vs →
    (∀ σ' φ', σ'.length = σ.length → (∀ i, i ∉ is → σ'[i]? = σ[i]?) → EOk M Z H σ' ρ' φ' → (∀ a, Own ρ' φ' a → Own ρ φ a) → (∀ i, i ∉ is → getS ρ' i = getS ρ i) → K σ' H) → gMany is vs σ H K
  | [], [], vs, Z, H, σ, ρ, ρ', φ, K, h, e, r, k => by
    cases h
    cases r
    exact ⟨rfl, k σ φ rfl (fun _ _ => rfl) e (fun _ h => h) fun _ _ => rfl⟩
  | [], _ :: _, _, _, _, _, _, _, _, _, h, _, _, _ => by cases h
  | _ :: _, [], _, _, _, _, _, _, _, _, h, _, _, _ => by cases h
  | i :: is, d :: ds, vs, Z, H, σ, ρ, ρ', φ, K, h, e, r, k => by
    obtain ⟨v, ws, rfl, r1, r2⟩ := r
    refine ⟨v, ws, rfl, ?_⟩
    refine many_ok h (e.setV (i := i) r1) r2 fun σ' φ' h1 h2 h3 h4 h5 => ?_
    refine k σ' φ' (by rw [h1, List.length_set]) (fun j hj => ?_) h3 (fun a ha => ?_) fun j hj => ?_
    · simp only [List.mem_cons, not_or] at hj
      rw [h2 j hj.2, List.getElem?_set_ne (Ne.symm hj.1)]
    · rcases (h4 a ha).set with z | z
      · cases z
      · exact z
    · simp only [List.mem_cons, not_or] at hj
      rw [h5 j hj.2, getS_set_ne hj.1]
theorem bindMany_len : ∀ {is : List Nat} {ds : List D} {ρ ρ' : Env}, bindMany is ds ρ = some ρ' → ds.length = is.length
  | [], [], _, _, _ => rfl
  | [], _ :: _, _, _, h => by cases h
  | _ :: _, [], _, _, h => by cases h
  | i :: is, d :: ds, ρ, ρ', h => by
    have h' : bindMany is ds (setS ρ i (some (.val d))) = some ρ' := h
    simp [bindMany_len h']
theorem bind_ok {tg : Tg} {d : D} {v : V} {Z H : Hp} {σ : L2.St} {ρ ρ' : Env} {φ : Nat → List Addr} {K : L2.St → Hp → Prop} (h : bindT tg d ρ = some ρ') (e : EOk M Z H σ ρ φ) (r : Rp M Z d v)
    (k : ∀ σ' φ', σ'.length = σ.length → (∀ i, i ∉ tg.slots → σ'[i]? = σ[i]?) → EOk M Z H σ' ρ' φ' → (∀ a, Own ρ' φ' a → Own ρ φ a) → (∀ i, i ∉ tg.slots → getS ρ' i = getS ρ i) → K σ' H) : gT M.K tg v σ H K := by
  cases tg with
  | one i =>
    cases h
    refine k _ _ (by simp) (fun j hj => ?_) (e.setV r) (fun a ha => ?_) fun j hj => ?_
    · simp [Tg.slots] at hj
      rw [List.getElem?_set_ne (Ne.symm hj)]
    · rcases ha.set with z | z
      · cases z
      · exact z
    · simp [Tg.slots] at hj
      rw [getS_set_ne hj]
  | many is =>
    cases d with
    | tup ds =>
      obtain ⟨a, vs, rfl, r1, r2⟩ := r
      exact ⟨a, vs, rfl, e.sub.st r1.sq, by rw [r2.length]; exact bindMany_len h, many_ok h e r2 k⟩
    | _ => cases h
theorem wipe_len (σ : L2.St) (vs : List Nat) : (wipe σ vs).length = σ.length := wipe_length σ vs
theorem wipe_in {σ : L2.St} {i : Nat} : ∀ {vs : List Nat}, i ∈ vs → i < σ.length → (wipe σ vs)[i]? = some none
  | v :: vs, h, hi => by
    unfold wipe
    by_cases e : v = i
    · subst e
      rw [List.getElem?_set_self (by rw [wipe_length]; exact hi)]
    · rw [List.getElem?_set_ne e]
      rcases List.mem_cons.mp h with h | h
      · exact absurd h.symm e
      · exact wipe_in h hi
theorem wipe_eq {σ σ' : L2.St} {vs : List Nat} (hl : σ'.length = σ.length) (h : ∀ i, i ∉ vs → σ'[i]? = (wipe σ vs)[i]?) : wipe σ' vs = wipe σ vs := by
  apply List.ext_getElem?
  intro i
  by_cases hi : i ∈ vs
  · by_cases hl' : i < σ.length
    · rw [wipe_in hi hl', wipe_in hi (by rw [hl]; exact hl')]
    · rw [List.getElem?_eq_none (by rw [wipe_length]; omega), List.getElem?_eq_none (by rw [wipe_length]; omega)]
  · have := h i hi
    rw [wipe_out hi, this]
theorem wipe_wipe (σ : L2.St) (vs : List Nat) : wipe (wipe σ vs) vs = wipe σ vs := wipe_eq (wipe_length _ _) fun _ _ => rfl
theorem EOk.wipe {Z H : Hp} {σ : L2.St} {ρ : Env} {φ : Nat → List Addr} (e : EOk M Z H σ ρ φ) (vs : List Nat) : EOk M Z H (L2.wipe σ vs) (wipeS ρ vs) φ := by
  have h1 := e.less (ρ' := wipeS ρ vs) (wipeS_length _ _) fun i o h => (wipeS_some h).1
  refine ⟨h1.sub, by rw [wipe_length, h1.len], fun i o hi => ?_, h1.out, h1.dis⟩
  obtain ⟨_, h2⟩ := wipeS_some hi
  rw [wipe_out h2]
  exact h1.hold i o hi
theorem own_wipe {ρ : Env} {φ : Nat → List Addr} {vs : List Nat} {a : Addr} (x : Own (wipeS ρ vs) φ a) : Own ρ φ a := x.less fun _ _ h => (wipeS_some h).1
theorem EOk.upd {Z H : Hp} {σ : L2.St} {ρ : Env} {φ : Nat → List Addr} {a : Addr} {o : HO} (e : EOk M Z H σ ρ φ) (hz : Z a = none) (hn : ¬ Own ρ φ a) : EOk M Z (L2.upd H a o) σ ρ φ := by
  refine ⟨fun b u q => by rw [upd_ne (ne_of_none q hz)]; exact e.sub b u q, e.len, fun i u hi => ?_, e.out, e.dis⟩
  obtain ⟨v, h1, h2⟩ := e.hold i u hi
  refine ⟨v, h1, h2.keep (.refl _) fun b hb w q => ?_⟩
  have hne : b ≠ a := fun z => hn (by rw [← z]; exact ⟨i, u, hi, hb⟩)
  rw [upd_ne hne]
  exact q
theorem Stp.upd {Z H Z' H' : Hp} {P R : Addr → Prop} {a : Addr} {o : HO} (st : Stp Z H P Z' H' R) (h : H a = none) : Stp Z H P Z' (L2.upd H' a o) R :=
  ⟨st.zz, fun b u q hn => by rw [upd_ne (ne_of_none q h)]; exact st.ch b u q hn, fun b q z => by
    by_cases e : b = a
    · subst e; exact q h
    · rw [upd_ne e] at z; exact st.al b q z, st.zn, st.ow⟩
/-- the names that are a comprehension's -/
theorem blk_own {s : Sc} : ∀ {is : List Nat} {es : List Expr}, mTgs s is es = true → ((es.filterMap fun | .Name x _ => some x | _ => none).zip is).map (·.2) = is
  | [], [], _ => rfl
  | [], _ :: _, h => by cases h
  | i :: is, e :: es, h => by
    cases e with
    | Name x p =>
      unfold mTgs at h
      rw [Bool.and_eq_true] at h
      have ih := blk_own h.2
      show ((x :: es.filterMap _).zip (i :: is)).map (·.2) = i :: is
      rw [List.zip_cons_cons, List.map_cons, ih]
    | _ => cases h
  | _ :: _, [], h => by cases h
theorem own_slots {s : Sc} {tg : Tg} {e : Expr} (h : mTg s tg e = true) : ((tgNames e).zip tg.slots).map (·.2) = tg.slots := by
  unfold mTg at h
  split at h
  · rfl
  · exact blk_own h
  · cases h
/-- the block of a comprehension -/
theorem Gd.blk (g : Gd M T G CL C n X s) {scope : Scope} {s0 : Shared} {H : Hp} {Cd : Addr} {cl : List (Str × Addr)} {fp : List Addr} : Gd M T G CL C n (X.blk s0 H scope (compEnvC scope cl Cd X.env) fp) (blkSc s scope) where
  k := g.k
  calm := g.calm
  N := g.N
  nd := g.nd
  sc := by show relS scope X.env.scope = relS scope s.sc; rw [g.sc]
  fn := fun x h => h
  room := g.room
  xe := rfl
  glb := g.glb
  blt := g.blt
  fns := g.fns
  psl := g.psl
  clm := g.clm
  cls := g.cls
  fcl := g.fcl
  new := g.new
  fnm := g.fnm
  fnd := g.fnd
  mnm := g.mnm
  nc := g.nc
  gk := g.gk
/-- a comprehension -/
theorem comp_ok (g : Gd M T G CL C n X s) {tg : Tg} {k : ItK} {es cs : List E} {a : E} {tgt iter elt : Expr} {ifs : List Expr} {scope : Scope} {pos : Pos} {PP : TI → Prop} (hi : PP (tI M G CL C k es)) (hns : notSet iter = true)
    (hblk : blkC s.N s.sc scope ((tgNames tgt).zip tg.slots) = true) (htg : mTg (blkSc s scope) tg tgt = true)
    (hc : ∀ (s0 : Shared) (H : Hp) (Cd : Addr) (cl : List (Str × Addr)) (fp : List Addr), PTs (X.blk s0 H scope (compEnvC scope cl Cd X.env) fp) ifs (fun σ H Q => ∃ Z ρ φ b ρ', EOk M Z H σ ρ φ ∧ evC G CL C cs ρ = some (b, ρ') ∧ ∀ Z' H' φ', Stp Z H (Own ρ φ) Z' H' (Own ρ' φ') → EOk M Z' H' σ ρ' φ' → Q b H'))
    (he : ∀ (s0 : Shared) (H : Hp) (Cd : Addr) (cl : List (Str × Addr)) (fp : List Addr), PE (X.blk s0 H scope (compEnvC scope cl Cd X.env) fp) elt (tM M (ev G CL C a false))) :
    ∃ wi gg tt te vs, (∀ σ H Q, tM M (ev G CL C (.comp tg k es cs a) false) σ H Q → tLc wi gg tt te vs σ H Q) ∧ vs = ((tgNames tgt).zip tg.slots).map (·.2) ∧ PP wi ∧ BlkOk X.N X.env.scope scope ((tgNames tgt).zip tg.slots) ∧
      (∀ (s0 : Shared) (H : Hp) (Cd : Addr) (cl : List (Str × Addr)) (fp : List Addr), PG (X.blk s0 H scope (compEnvC scope cl Cd X.env) fp) tgt gg) ∧
      (∀ (s0 : Shared) (H : Hp) (Cd : Addr) (cl : List (Str × Addr)) (fp : List Addr), PTs (X.blk s0 H scope (compEnvC scope cl Cd X.env) fp) ifs tt) ∧
      (∀ (s0 : Shared) (H : Hp) (Cd : Addr) (cl : List (Str × Addr)) (fp : List Addr), PE (X.blk s0 H scope (compEnvC scope cl Cd X.env) fp) elt te) ∧ ∀ x, foldedSetIterable iter X.env x = pure x := by
  refine ⟨_, gT M.K tg, _, _, tg.slots, fun σ H Q hq => ?_, ?_, hi, ?_, fun s0 H Cd cl fp => g_ok g.blk htg, hc, he, fun x => ?_⟩
  · obtain ⟨Z, ρ, φ, o, ρ', e, h, q⟩ := hq
    unfold ev at h
    cases h1 : evV G CL C es ρ with
    | none => rw [h1] at h; cases h
    | some p1 =>
    obtain ⟨ds, ρ1⟩ := p1
    rw [h1] at h
    simp only at h
    cases h2 : iterD k ds with
    | none => rw [h2] at h; cases h
    | some xs =>
    rw [h2] at h
    simp only at h
    cases h3 : plainS ρ1 tg.slots with
    | false => rw [h3] at h; cases h
    | true =>
    rw [h3] at h
    simp only at h
    refine ⟨Z, ρ, φ, ds, ρ1, xs, e, h1, h2, fun J Z1 H1 φ1 st1 e1 hJ D0 hD => ?_⟩
    generalize hstep : (fun x ρ2 => match bindT tg x ρ2 with
            | none => none
            | some ρ3 => match evC G CL C cs ρ3 with
              | none => none
              | some (false, ρ4) => some (none, wipeS ρ4 tg.slots)
              | some (true, ρ4) => match ev G CL C a false ρ4 with
                | none => none
                | some (o, ρ5) => some (some o.frz, wipeS ρ5 tg.slots)) = step at h
    cases h4 : compGo step xs (wipeS ρ1 tg.slots) with
    | none => rw [h4] at h; cases h
    | some p4 =>
    obtain ⟨dsf, ρ6⟩ := p4
    rw [h4] at h
    simp only at h
    obtain ⟨hsz, h⟩ := ite_some h
    cases h
    -- the slots of its own are plain
    have hpl : ∀ i o, i ∈ tg.slots → getS ρ1 i = some o → ∃ d, o = .val d := fun i o hi ho => by
      have := List.all_eq_true.mp h3 i hi
      rw [ho] at this
      cases o with
      | val d => exact ⟨d, rfl⟩
      | _ => cases this
    refine ⟨fun i m H2 => m = xs.length - i ∧ i ≤ xs.length ∧ ∃ Z2 ρ2 φ2 acc accd rest, EOk M Z2 H2 (L2.wipe σ tg.slots) ρ2 φ2 ∧ (∀ i ∈ tg.slots, getS ρ2 i = none) ∧ H2 D0 = some (.lst acc) ∧ RpA M Z2 accd acc ∧ Z2 D0 = none ∧ ¬ Own ρ2 φ2 D0 ∧
      Stp Z1 H1 (Own ρ1 φ1) Z2 H2 (fun a => Own ρ2 φ2 a ∨ a = D0) ∧ compGo step (xs.drop i) ρ2 = some (rest, ρ6) ∧ dsf = accd ++ rest, ⟨xs.length, by simp, Nat.zero_le _, ?_⟩, ?_⟩
    · -- the start
      have zD : Z1 D0 = none := e1.sub.none hD
      have x : Ext Z1 H1 Z1 (upd H1 D0 (.lst [])) [D0] := ⟨.refl _, fun a o q => by rw [upd_ne (ne_of_none (e1.sub a o q) hD)]; exact e1.sub a o q, fun a o q => by rw [upd_ne (ne_of_none q hD)]; exact q, fun _ q => .inl q, fun a ha => by simp at ha; subst ha; exact ⟨hD, zD⟩⟩
      refine ⟨Z1, wipeS ρ1 tg.slots, φ1, [], [], dsf, (e1.ext x).wipe _, fun i hi => ?_, upd_same, rfl, zD, fun z => ?_, ?_, by rw [List.drop_zero]; exact h4, rfl⟩
      · cases q : getS (wipeS ρ1 tg.slots) i with
        | none => rfl
        | some o => exact absurd hi (wipeS_some q).2
      · obtain ⟨u, hu⟩ := (own_wipe z).alloc e1
        rw [hD] at hu; cases hu
      · exact x.stp.less fun a z => z.elim (fun z => .inl (own_wipe z)) fun z => .inr (by simp [z])
    · rintro i m H2 ⟨rfl, hi', Z2, ρ2, φ2, acc, accd, rest, e2, hn2, hD2, ra, zD, nD, st2, hgo, hds⟩
      have z12 : Sub Z1 Z2 := st2.zz
      by_cases hlt : i < xs.length
      · -- a turn
        refine .inr ⟨hJ.go i H2 (z12.trans e2.sub) hlt, fun H3 => i + 1 ≤ xs.length ∧ ∃ Z3 ρ3 φ3 acc accd rest, EOk M Z3 H3 (L2.wipe σ tg.slots) ρ3 φ3 ∧ (∀ i ∈ tg.slots, getS ρ3 i = none) ∧ H3 D0 = some (.lst acc) ∧ RpA M Z3 accd acc ∧ Z3 D0 = none ∧ ¬ Own ρ3 φ3 D0 ∧
          Stp Z1 H1 (Own ρ1 φ1) Z3 H3 (fun a => Own ρ3 φ3 a ∨ a = D0) ∧ compGo step (xs.drop (i + 1)) ρ3 = some (rest, ρ6) ∧ dsf = accd ++ rest, fun H3 q3 => ⟨xs.length - (i + 1), by omega, rfl, q3⟩, fun v H3 hy => ?_⟩
        have hx : xs[i]? = some xs[i] := List.getElem?_eq_getElem hlt
        obtain ⟨Z3, x3, r3⟩ := hJ.yld i H2 v H3 Z2 _ z12 e2.sub hx hy
        have e3 := e2.ext x3
        -- what the run did at this turn
        have hdrop : xs.drop i = xs[i] :: xs.drop (i + 1) := List.drop_eq_getElem_cons hlt
        rw [hdrop] at hgo
        unfold compGo at hgo
        cases h5 : step xs[i] ρ2 with
        | none => rw [h5] at hgo; cases hgo
        | some p5 =>
        obtain ⟨od, ρ7⟩ := p5
        rw [h5] at hgo
        simp only at hgo
        cases h6 : compGo step (xs.drop (i + 1)) ρ7 with
        | none => rw [h6] at hgo; cases hgo
        | some p6 =>
        obtain ⟨rest', ρ8⟩ := p6
        rw [h6] at hgo
        simp only [Option.some.injEq, Prod.mk.injEq] at hgo
        obtain ⟨hrest, rfl⟩ := hgo
        rw [← hstep] at h5
        simp only at h5
        cases h7 : bindT tg xs[i] ρ2 with
        | none => rw [h7] at h5; cases h5
        | some ρ3 =>
        rw [h7] at h5
        simp only at h5
        refine bind_ok h7 e3 r3 fun σ' φ3 hl hs e4 ho hg => ⟨wipe_eq (by rw [hl, wipe_length]) fun j hj => hs j hj, ?_⟩
        have hw : L2.wipe σ' tg.slots = L2.wipe σ tg.slots := wipe_eq (by rw [hl, wipe_length]) fun j hj => hs j hj
        cases h8 : evC G CL C cs ρ3 with
        | none => rw [h8] at h5; cases h5
        | some p8 =>
        obtain ⟨b, ρ4⟩ := p8
        rw [h8] at h5
        refine ⟨Z3, ρ3, φ3, b, ρ4, e4, h8, fun Z4 H4 φ4 st4 e5 => ?_⟩
        -- the list that is made stands
        have hD3 : H3 D0 = some (.lst acc) := x3.hh _ _ hD2
        have zD3 : Z3 D0 = none := by
          cases q : Z3 D0 with
          | none => rfl
          | some u => rcases x3.zn D0 (by rw [q]; exact fun z => nomatch z) with z | z
                      · exact absurd zD z
                      · rw [hD2] at z; cases z
        have nD3 : ¬ Own ρ3 φ3 D0 := fun z => nD (ho _ z)
        have hD4 : H4 D0 = some (.lst acc) := st4.ch _ _ hD3 nD3
        have zD4 : Z4 D0 = none := by
          cases q : Z4 D0 with
          | none => rfl
          | some u => rcases st4.zn D0 (by rw [q]; exact fun z => nomatch z) with z | z | z
                      · exact absurd zD3 z
                      · exact absurd z nD3
                      · rw [hD3] at z; cases z
        have nD4 : ¬ Own ρ4 φ4 D0 := fun z => (st4.ow _ z).elim nD3 fun z => by rw [hD3] at z; cases z
        have st13 : Stp Z1 H1 (Own ρ1 φ1) Z3 H3 (fun a => Own ρ3 φ3 a ∨ a = D0) := by
          refine (st2.trans (x3.stp (P := fun a => Own ρ2 φ2 a ∨ a = D0))).less fun a z => .inl (z.imp_left (ho a))
        have st34 : Stp Z3 H3 (fun a => Own ρ3 φ3 a ∨ a = D0) Z4 H4 (fun a => Own ρ4 φ4 a ∨ a = D0) :=
          ⟨st4.zz, fun a o q hn => st4.ch a o q fun z => hn (.inl z), st4.al, fun a q => (st4.zn a q).imp_right (·.imp_left .inl), fun a z => z.elim (fun z => (st4.ow a z).imp_left .inl) fun z => .inl (.inr z)⟩
        have st14 := st13.trans st34
        cases b with
        | false =>
          simp only [Option.some.injEq, Prod.mk.injEq] at h5
          obtain ⟨rfl, rfl⟩ := h5
          refine iteF ⟨hlt, Z4, wipeS ρ4 tg.slots, φ4, acc, accd, rest', ?_, fun j hj => ?_, hD4, RpA.mono (x3.zz.trans st4.zz) _ _ ra, zD4, fun z => nD4 (own_wipe z), st14.less fun a z => z.imp_left own_wipe, h6, by rw [hds, ← hrest]; rfl⟩
          · have := e5.wipe tg.slots
            rw [hw] at this
            exact this
          · cases q : getS (wipeS ρ4 tg.slots) j with
            | none => rfl
            | some o => exact absurd hj (wipeS_some q).2
        | true =>
          refine iteT ?_
          simp only at h5
          cases h9 : ev G CL C a false ρ4 with
          | none => rw [h9] at h5; cases h5
          | some p9 =>
          obtain ⟨o, ρ5⟩ := p9
          rw [h9] at h5
          simp only [Option.some.injEq, Prod.mk.injEq] at h5
          obtain ⟨rfl, rfl⟩ := h5
          refine ⟨Z4, ρ4, φ4, o, ρ5, e5, h9, fun w Zf H5 φ5 f st5 e6 r6 hf => ?_⟩
          obtain ⟨Z6, st6, e7, rp⟩ := frozen st5 e6 r6 hf
          have hD5 : H5 D0 = some (.lst acc) := st6.ch _ _ hD4 nD4
          have zD6 : Z6 D0 = none := by
            cases q : Z6 D0 with
            | none => rfl
            | some u => rcases st6.zn D0 (by rw [q]; exact fun z => nomatch z) with z | z | z
                        · exact absurd zD4 z
                        · exact absurd z nD4
                        · rw [hD4] at z; cases z
          have nD5 : ¬ Own ρ5 φ5 D0 := fun z => (st6.ow _ z).elim nD4 fun z => by rw [hD4] at z; cases z
          have st46 : Stp Z4 H4 (fun a => Own ρ4 φ4 a ∨ a = D0) Z6 H5 (fun a => Own ρ5 φ5 a ∨ a = D0) :=
            ⟨st6.zz, fun a o q hn => st6.ch a o q fun z => hn (.inl z), st6.al, fun a q => (st6.zn a q).imp_right (·.imp_left .inl), fun a z => z.elim (fun z => (st6.ow a z).imp_left .inl) fun z => .inl (.inr z)⟩
          have hlen : acc.length < sizeLine := by
            rw [ra.length]
            rw [hds, ← hrest] at hsz
            simp at hsz
            omega
          refine ⟨acc, hD5, hlen, hlt, Z6, wipeS ρ5 tg.slots, φ5, acc ++ [w], accd ++ [o.frz], rest', ?_, fun j hj => ?_, upd_same, ?_, zD6, fun z => nD5 (own_wipe z), ((st14.trans st46).upd hD).less fun a z => z.imp_left own_wipe, h6, by rw [hds, ← hrest]; simp⟩
          · have := (e7.upd (o := .lst (acc ++ [w])) zD6 nD5).wipe tg.slots
            rw [hw] at this
            exact this
          · cases q : getS (wipeS ρ5 tg.slots) j with
            | none => rfl
            | some o => exact absurd hj (wipeS_some q).2
          · exact (RpA.mono (x3.zz.trans (st4.zz.trans st6.zz)) _ _ ra).snoc rp
      · -- the end
        have : i = xs.length := by omega
        subst this
        refine .inl ⟨hJ.stop _ H2 (z12.trans e2.sub) (Nat.le_refl _), ?_⟩
        rw [List.drop_length] at hgo
        have hgo : some (([] : List D), ρ2) = some (rest, ρ6) := hgo
        simp only [Option.some.injEq, Prod.mk.injEq] at hgo
        obtain ⟨hr0, hr1⟩ := hgo
        subst hr0
        subst hr1
        rw [List.append_nil] at hds
        subst hds
        -- the slots as they were
        have hb : ∀ i o, getS (backS ρ1 ρ2 tg.slots) i = some o → (i ∈ tg.slots ∧ getS ρ1 i = some o) ∨ (i ∉ tg.slots ∧ getS ρ2 i = some o) := fun i o h => backS_some h
        have eo : EOk M Z2 H2 σ (backS ρ1 ρ2 tg.slots) (fun i => if i ∈ tg.slots then [] else φ2 i) := by
          refine ⟨e2.sub, by rw [backS_length, ← e2.len, wipe_length], fun i o h => ?_, fun a ⟨i, o, h, hm⟩ => ?_, fun i j o u a h1 h2 m1 m2 => ?_⟩
          · rcases hb i o h with ⟨hi, h⟩ | ⟨hi, h⟩
            · obtain ⟨d, rfl⟩ := hpl i o hi h
              obtain ⟨v, h1, h2⟩ := e1.hold i _ h
              exact ⟨v, h1, by simp [hi]; exact ⟨rfl, Rp.mono z12 _ _ h2.2⟩⟩
            · obtain ⟨v, h1, h2⟩ := e2.hold i o h
              rw [wipe_out hi] at h1
              exact ⟨v, h1, by simpa [hi] using h2⟩
          · rcases hb i o h with ⟨hi, h⟩ | ⟨hi, h⟩
            · simp [hi] at hm
            · simp [hi] at hm; exact e2.out a ⟨i, o, h, hm⟩
          · rcases hb i o h1 with ⟨hi, h1⟩ | ⟨hi, h1⟩
            · simp [hi] at m1
            · rcases hb j u h2 with ⟨hj, h2⟩ | ⟨hj, h2⟩
              · simp [hj] at m2
              · simp [hi] at m1; simp [hj] at m2; exact e2.dis i j o u a h1 h2 m1 m2
        have ob : ∀ a, Own (backS ρ1 ρ2 tg.slots) (fun i => if i ∈ tg.slots then [] else φ2 i) a → Own ρ2 φ2 a := fun a ⟨i, o, h, hm⟩ => by
          rcases hb i o h with ⟨hi, h⟩ | ⟨hi, h⟩
          · simp [hi] at hm
          · simp [hi] at hm; exact ⟨i, o, h, hm⟩
        refine q (.ref D0) Z2 H2 _ [D0] ((st1.trans st2).less fun a z => z.elim (fun z => .inl (ob a z)) fun z => .inr (by simpa using z)) eo ⟨D0, acc, rfl, rfl, hD2, ra⟩ fun a ha => ?_
        simp at ha
        subst ha
        exact ⟨zD, fun z => nD (ob _ z)⟩
  · exact (own_slots htg).symm
  · rw [g.N, g.sc]
    exact blkOk_by hblk
  · cases iter <;> first | rfl | cases hns
end
end EV

namespace EV
open PyProof.Rows PySem L2 PySem.Spec
section
variable {M : Mt} {T : Stat} {G : List D} {CL : List (List Nat)} {C : CallF} {n : Nat} {X : Cx} {s : Sc}
/-- behind a test's value -/
theorem tt_mono {m : Env → Option (O × Env)} {σ : L2.St} {H : Hp} {Q Q' : Bool → Hp → Prop} (h : tT M m σ H Q) (w : ∀ v H, Q v H → Q' v H) : tT M m σ H Q' := by
  obtain ⟨Z, ρ, φ, o, ρ', e, hm, q⟩ := h
  exact ⟨Z, ρ, φ, o, ρ', e, hm, fun Z' H' φ' st e' => w _ H' (q Z' H' φ' st e')⟩
/-- a comparison as a test -/
theorem op_test (g : Gd M T G CL C n X s) {p : Pr} {es : List E} {x y : Expr} {op : CmpOp} {pos : Pos} (h : cmpOf p = some op) (hb : behindInMarks op y = false) (hx : PEs X [x, y] (es.map (rdO M G CL C))) :
    PT X (.Compare x [op] [y] pos) (tT M (ev G CL C (.op p es) true)) := by
  obtain ⟨a, b, rfl, ha, hb'⟩ := hx.es2
  obtain ⟨r, ho, srv⟩ := cmp_ok g.k g.hu p _ h
  refine PT.weak (pt_cmpR ho ha hb' hb) fun σ H Q ⟨Z, ρ, φ, b1, ρ', e, hm, q⟩ => ?_
  unfold ev at hm
  cases h1 : evO G CL C [a, b] ρ with
  | none => rw [h1] at hm; cases hm
  | some w =>
    obtain ⟨ds, ρ1⟩ := w
    rw [h1] at hm
    simp only at hm
    match ds, evO_len h1, h1, hm with
    | [d1, d2], _, h1, hm =>
      cases h2 : prim p [d1, d2] with
      | none => rw [h2] at hm; cases hm
      | some o =>
        rw [h2] at hm
        simp only at hm
        obtain ⟨b2, t, hb2, rfl⟩ := post_true hm
        cases hb2
        obtain ⟨b3, rfl⟩ := cmp_bl h h2
        have t : some b3 = some b1 := t
        cases t
        exact ops_ok (K := fun vs H2 => match vs with | [x, y] => r x y H2 (fun x H' => ∃ k, x = .bl k ∧ Q k H') | _ => False) [a, b] e h1 fun vs Z1 H1 φ1 st e1 ra => by
          obtain ⟨v, vs, rfl, r1, w, ws, rfl, r2, rfl⟩ := ra
          refine srv Z1 H1 v w d1 d2 _ _ e1.sub r1 r2 h2 fun v Z' H' f x rr => ?_
          obtain ⟨rfl, rv⟩ := rr
          exact ⟨_, rv, q Z' H' φ1 ((st.trans x.stp).less fun a z => .inl z) (e1.ext x)⟩
theorem op_pt (g : Gd M T G CL C n X s) {p : Pr} {es : List E} {e : Expr} {xs : List Expr} (h : opShape T s p es e = some xs) (hx : PEs X xs (es.map (rdO M G CL C))) : PT X e (tT M (ev G CL C (.op p es) true)) := by
  have post : okTruth e = true → PT X e (tT M (ev G CL C (.op p es) true)) := fun ht => pt_of g.k (op_all g h hx) ht fun ρ w hw => by
    unfold ev at hw ⊢
    cases h1 : evO G CL C es ρ with
    | none => rw [h1] at hw; cases hw
    | some w =>
      obtain ⟨ds, ρ1⟩ := w
      rw [h1] at hw
      simp only at hw
      cases h2 : prim p ds with
      | none => rw [h2] at hw; cases hw
      | some o => rw [h2] at hw; exact ⟨o, ρ1, by simp only [h2]; rfl, hw⟩
  have h0 := h
  unfold opShape at h
  split at h
  · exact post rfl
  · exact post rfl
  · obtain ⟨⟨h1, h2⟩, h⟩ := ite_some h
    cases h
    exact op_test g h1 h2 hx
  · exact post rfl
  · exact post rfl
  · exact post rfl
  · exact post rfl
  · cases h
/-- a run whose test is its value's truth -/
def Plain (G : List D) (CL : List (List Nat)) (C : CallF) (e : E) : Prop := ∀ ρ p, ev G CL C e true ρ = some p → ∃ o ρ', ev G CL C e false ρ = some (o, ρ') ∧ post true o ρ' = some p
theorem both (hK : X.K = M.K) {ir : E} {e : Expr} (h : PE X e (tM M (ev G CL C ir false))) (ht : okTruth e = true) (p : Plain G CL C ir) : PE X e (tM M (ev G CL C ir false)) ∧ PT X e (tT M (ev G CL C ir true)) := ⟨h, pt_of hK h ht p⟩
/-! ### methods of texts -/
theorem mop1 {p : Pr} {o b : E} {σ : L2.St} {H : Hp} {Z : Hp} {ρ ρ' : Env} {φ : Nat → List Addr} {r : O} {K : V → V → Hp → Prop} (e : EOk M Z H σ ρ φ) (h : ev G CL C (.mop p o [b]) false ρ = some (r, ρ')) (hs : ∀ d, rcv p d = true → ∃ a, d = .str a)
    (k : ∀ v w a d Z' H' φ', Stp Z H (Own ρ φ) Z' H' (Own ρ' φ') → EOk M Z' H' σ ρ' φ' → v = .str a → RpW M Z' H' d w → prim p [.str a, d] = some r → K v w H') :
    rdO M G CL C o σ H fun v H1 => (∃ a, v = .str a) ∧ rdO M G CL C b σ H1 fun w H2 => K v w H2 := by
  by_cases hb : ∃ i, o = .bw i
  · obtain ⟨i, rfl⟩ := hb
    unfold ev at h
    simp only at h
    cases q0 : getS ρ i with
    | none => rw [q0] at h; cases h
    | some o0 =>
    rw [q0] at h
    simp only at h
    cases q1 : rcv p o0.frz with
    | false => rw [q1] at h; cases h
    | true =>
    rw [q1] at h
    simp only at h
    cases q2 : evO G CL C [b] ρ with
    | none => rw [q2] at h; cases h
    | some w =>
    obtain ⟨ds, ρ1⟩ := w
    rw [q2] at h
    simp only at h
    cases q3 : getS ρ1 i with
    | none => rw [q3] at h; cases h
    | some o1 =>
    rw [q3] at h
    simp only at h
    match ds, evO_len q2, q2, h with
    | [d], _, q2, h =>
    cases q4 : prim p [o1.frz, d] with
    | none => rw [q4] at h; cases h
    | some r' =>
    rw [q4] at h
    simp only [post, Option.some.injEq, Prod.mk.injEq] at h
    obtain ⟨rfl, rfl⟩ := h
    obtain ⟨v, hv, r0⟩ := e.hold i o0 q0
    obtain ⟨a, ha⟩ := hs _ q1
    have hva : v = .str a := RpW.str (M := M) (Z := Z) (H := H) ⟨o0, _, r0, ha⟩
    refine ⟨v, hv, ⟨a, hva⟩, ?_⟩
    refine ops_ok (K := fun vs H2 => match vs with | [w] => K v w H2 | _ => False) [b] e q2 fun vs Z1 H1 φ1 st e1 ra => ?_
    obtain ⟨w, ws, rfl, r1, rfl⟩ := ra
    -- the receiver is the same text still
    obtain ⟨v', hv', r1'⟩ := e1.hold i o1 q3
    rw [hv] at hv'
    cases hv'
    have hd : o1.frz = .str a := by
      subst hva
      cases o1 with
      | val x =>
        obtain ⟨_, r⟩ := r1'
        cases x with
        | str b => cases (show V.str a = V.str b from r); rfl
        | tup _ => obtain ⟨_, _, e, _⟩ := r; exact absurd e (by simp)
        | lst _ => obtain ⟨_, _, e, _⟩ := r; exact absurd e (by simp)
        | dctK _ => obtain ⟨_, _, e, _⟩ := r; exact absurd e (by simp)
        | dctT _ => obtain ⟨_, _, e, _⟩ := r; exact absurd e (by simp)
        | ins _ _ => obtain ⟨_, _, _, e, _⟩ := r; exact absurd e (by simp)
        | non => exact absurd (show V.str a = V.non from r) (by simp)
        | bl _ => exact absurd (show V.str a = V.bl _ from r) (by simp)
        | int _ => exact absurd (show V.str a = V.int _ from r) (by simp)
      | lst _ => obtain ⟨b, _, e, _⟩ := r1'; cases e
      | dctK _ => obtain ⟨b, _, e, _⟩ := r1'; cases e
      | dctT _ => obtain ⟨b, _, e, _⟩ := r1'; cases e
    rw [hd] at q4
    exact k v w a d Z1 H1 φ1 st e1 hva r1 q4
  · have hd : rdO M G CL C o = tM M (ev G CL C o false) := by
      cases o <;> first | rfl | exact absurd ⟨_, rfl⟩ hb
    have h' : (match ev G CL C o false ρ with
        | none => none
        | some (o0, ρ1) => match rcv p o0.frz with
          | false => none
          | true => match evO G CL C [b] ρ1 with
            | none => none
            | some (ds, ρ') => match prim p (o0.frz :: ds) with
              | none => none
              | some r => post false r ρ') = some (r, ρ') := by
      unfold ev at h
      cases o <;> first | exact h | exact absurd ⟨_, rfl⟩ hb
    cases q0 : ev G CL C o false ρ with
    | none => rw [q0] at h'; cases h'
    | some w0 =>
    obtain ⟨o0, ρ1⟩ := w0
    rw [q0] at h'
    simp only at h'
    cases q1 : rcv p o0.frz with
    | false => rw [q1] at h'; cases h'
    | true =>
    rw [q1] at h'
    simp only at h'
    cases q2 : evO G CL C [b] ρ1 with
    | none => rw [q2] at h'; cases h'
    | some w =>
    obtain ⟨ds, ρ2⟩ := w
    rw [q2] at h'
    simp only at h'
    match ds, evO_len q2, q2, h' with
    | [d], _, q2, h' =>
    cases q4 : prim p [o0.frz, d] with
    | none => rw [q4] at h'; cases h'
    | some r' =>
    rw [q4] at h'
    simp only [post, Option.some.injEq, Prod.mk.injEq] at h'
    obtain ⟨rfl, rfl⟩ := h'
    obtain ⟨a, ha⟩ := hs _ q1
    rw [hd]
    refine ⟨Z, ρ, φ, o0, ρ1, e, q0, fun v Z1 H1 φ1 f st e1 rr hf => ?_⟩
    obtain ⟨Z2, st2, e2, rp⟩ := frozen st e1 rr hf
    rw [ha] at rp
    refine ⟨⟨a, rp⟩, ?_⟩
    refine ops_ok (K := fun vs H2 => match vs with | [w] => K v w H2 | _ => False) [b] e2 q2 fun vs Z3 H3 φ3 st3 e3 ra => ?_
    obtain ⟨w, ws, rfl, r1, rfl⟩ := ra
    rw [ha] at q4
    exact k v w a d Z3 H3 φ3 (st2.trans st3) e3 rp r1 q4
theorem mop0 {p : Pr} {o : E} {σ : L2.St} {H : Hp} {Z : Hp} {ρ ρ' : Env} {φ : Nat → List Addr} {r : O} {K : V → Hp → Prop} (e : EOk M Z H σ ρ φ) (h : ev G CL C (.mop p o []) false ρ = some (r, ρ')) (hs : ∀ d, rcv p d = true → ∃ a, d = .str a)
    (k : ∀ v a Z' H' φ', Stp Z H (Own ρ φ) Z' H' (Own ρ' φ') → EOk M Z' H' σ ρ' φ' → v = .str a → prim p [.str a] = some r → K v H') :
    rdO M G CL C o σ H fun v H1 => (∃ a, v = .str a) ∧ K v H1 := by
  by_cases hb : ∃ i, o = .bw i
  · obtain ⟨i, rfl⟩ := hb
    unfold ev at h
    simp only [evO] at h
    cases q0 : getS ρ i with
    | none => rw [q0] at h; cases h
    | some o0 =>
    rw [q0] at h
    simp only at h
    cases q1 : rcv p o0.frz with
    | false => rw [q1] at h; cases h
    | true =>
    rw [q1] at h
    simp only [q0] at h
    cases q4 : prim p [o0.frz] with
    | none => rw [q4] at h; cases h
    | some r' =>
    rw [q4] at h
    simp only [post, Option.some.injEq, Prod.mk.injEq] at h
    obtain ⟨rfl, rfl⟩ := h
    obtain ⟨v, hv, r0⟩ := e.hold i o0 q0
    obtain ⟨a, ha⟩ := hs _ q1
    have hva : v = .str a := RpW.str (M := M) (Z := Z) (H := H) ⟨o0, _, r0, ha⟩
    rw [ha] at q4
    exact ⟨v, hv, ⟨a, hva⟩, k v a Z H φ .refl e hva q4⟩
  · have hd : rdO M G CL C o = tM M (ev G CL C o false) := by
      cases o <;> first | rfl | exact absurd ⟨_, rfl⟩ hb
    have h' : (match ev G CL C o false ρ with
        | none => none
        | some (o0, ρ1) => match rcv p o0.frz with
          | false => none
          | true => match evO G CL C [] ρ1 with
            | none => none
            | some (ds, ρ') => match prim p (o0.frz :: ds) with
              | none => none
              | some r => post false r ρ') = some (r, ρ') := by
      unfold ev at h
      cases o <;> first | exact h | exact absurd ⟨_, rfl⟩ hb
    cases q0 : ev G CL C o false ρ with
    | none => rw [q0] at h'; cases h'
    | some w0 =>
    obtain ⟨o0, ρ1⟩ := w0
    rw [q0] at h'
    simp only at h'
    cases q1 : rcv p o0.frz with
    | false => rw [q1] at h'; cases h'
    | true =>
    rw [q1] at h'
    simp only [evO] at h'
    cases q4 : prim p [o0.frz] with
    | none => rw [q4] at h'; cases h'
    | some r' =>
    rw [q4] at h'
    simp only [post, Option.some.injEq, Prod.mk.injEq] at h'
    obtain ⟨rfl, rfl⟩ := h'
    obtain ⟨a, ha⟩ := hs _ q1
    rw [hd]
    refine ⟨Z, ρ, φ, o0, ρ1, e, q0, fun v Z1 H1 φ1 f st e1 rr hf => ?_⟩
    obtain ⟨Z2, st2, e2, rp⟩ := frozen st e1 rr hf
    rw [ha] at rp q4
    exact ⟨⟨a, rp⟩, k v a Z2 H1 φ1 st2 e2 rp q4⟩
/-- a method's run, whatever its receiver -/
theorem mopG {p : Pr} {o : E} {es : List E} {σ : L2.St} {H : Hp} {Z : Hp} {ρ ρ' : Env} {φ : Nat → List Addr} {r : O} {P : V → Hp → Prop} {K : V → List V → Hp → Prop} (e : EOk M Z H σ ρ φ) (h : ev G CL C (.mop p o es) false ρ = some (r, ρ'))
    (k1 : ∀ v d Z' H', Sub Z' H' → RpW M Z' H' d v → rcv p d = true → P v H')
    (k : ∀ v vs d ds Z' H' φ', Stp Z H (Own ρ φ) Z' H' (Own ρ' φ') → EOk M Z' H' σ ρ' φ' → RpW M Z' H' d v → RpWs M Z' H' ds vs → prim p (d :: ds) = some r → K v vs H') :
    rdO M G CL C o σ H fun v H1 => P v H1 ∧ nest (es.map (rdO M G CL C)) σ H1 fun vs H2 => K v vs H2 := by
  by_cases hb : ∃ i, o = .bw i
  · obtain ⟨i, rfl⟩ := hb
    unfold ev at h
    simp only at h
    cases q0 : getS ρ i with
    | none => rw [q0] at h; cases h
    | some o0 =>
    rw [q0] at h
    simp only at h
    cases q1 : rcv p o0.frz with
    | false => rw [q1] at h; cases h
    | true =>
    rw [q1] at h
    simp only at h
    cases q2 : evO G CL C es ρ with
    | none => rw [q2] at h; cases h
    | some w =>
    obtain ⟨ds, ρ1⟩ := w
    rw [q2] at h
    simp only at h
    cases q3 : getS ρ1 i with
    | none => rw [q3] at h; cases h
    | some o1 =>
    rw [q3] at h
    simp only at h
    cases q4 : prim p (o1.frz :: ds) with
    | none => rw [q4] at h; cases h
    | some r' =>
    rw [q4] at h
    simp only [post, Option.some.injEq, Prod.mk.injEq] at h
    obtain ⟨rfl, rfl⟩ := h
    obtain ⟨v, hv, r0⟩ := e.hold i o0 q0
    refine ⟨v, hv, k1 v _ Z H e.sub ⟨o0, _, r0, rfl⟩ q1, ops_ok es e q2 fun vs Z1 H1 φ1 st e1 ra => ?_⟩
    obtain ⟨v', hv', r1⟩ := e1.hold i o1 q3
    rw [hv] at hv'
    cases hv'
    exact k v vs _ ds Z1 H1 φ1 st e1 ⟨o1, _, r1, rfl⟩ ra q4
  · have hd : rdO M G CL C o = tM M (ev G CL C o false) := by
      cases o <;> first | rfl | exact absurd ⟨_, rfl⟩ hb
    have h' : (match ev G CL C o false ρ with
        | none => none
        | some (o0, ρ1) => match rcv p o0.frz with
          | false => none
          | true => match evO G CL C es ρ1 with
            | none => none
            | some (ds, ρ') => match prim p (o0.frz :: ds) with
              | none => none
              | some r => post false r ρ') = some (r, ρ') := by
      unfold ev at h
      cases o <;> first | exact h | exact absurd ⟨_, rfl⟩ hb
    cases q0 : ev G CL C o false ρ with
    | none => rw [q0] at h'; cases h'
    | some w0 =>
    obtain ⟨o0, ρ1⟩ := w0
    rw [q0] at h'
    simp only at h'
    cases q1 : rcv p o0.frz with
    | false => rw [q1] at h'; cases h'
    | true =>
    rw [q1] at h'
    simp only at h'
    cases q2 : evO G CL C es ρ1 with
    | none => rw [q2] at h'; cases h'
    | some w =>
    obtain ⟨ds, ρ2⟩ := w
    rw [q2] at h'
    simp only at h'
    cases q4 : prim p (o0.frz :: ds) with
    | none => rw [q4] at h'; cases h'
    | some r' =>
    rw [q4] at h'
    simp only [post, Option.some.injEq, Prod.mk.injEq] at h'
    obtain ⟨rfl, rfl⟩ := h'
    rw [hd]
    refine ⟨Z, ρ, φ, o0, ρ1, e, q0, fun v Z1 H1 φ1 f st e1 rr hf => ?_⟩
    obtain ⟨Z2, st2, e2, rp⟩ := frozen st e1 rr hf
    refine ⟨k1 v _ Z2 H1 e2.sub (.of rp) q1, ops_ok es e2 q2 fun vs Z3 H3 φ3 st3 e3 ra => ?_⟩
    exact k v vs _ ds Z3 H3 φ3 (st2.trans st3) e3 (.of (Rp.mono st3.zz _ _ rp)) ra q4
theorem str1_some {x : D} {f : Str → Option O} {o : O} (h : str1 x f = some o) : ∃ s, x = .str s ∧ f s = some o := by
  cases x <;> first | exact ⟨_, rfl, h⟩ | cases h
theorem mop_ok (g : Gd M T G CL C n X s) {p : Pr} {o : E} {es : List E} {e x : Expr} {xs : List Expr} (h : mopShape p e = some (x, xs)) (ho : PE X x (rdO M G CL C o)) (hx : PEs X xs (es.map (rdO M G CL C))) : PE X e (tM M (ev G CL C (.mop p o es) false)) := by
  unfold mopShape at h
  split at h
  · obtain ⟨⟨h1, h2, h3, h4⟩, hh⟩ := ite_some h
    cases hh
    obtain ⟨b, rfl, hb⟩ := hx.es1
    cases p <;> simp only [meOf, reduceCtorEq, Option.some.injEq] at h1
    case join =>
      subst h1
      refine PE.weak (pe_join ho hb (starEach_of h4) (base_ok h2) h3) fun σ H Q ⟨Z, ρ, φ, r, ρ', e, hm, q⟩ => ?_
      refine mop1 e hm (fun d hd => by cases d <;> first | exact ⟨_, rfl⟩ | cases hd) fun v w a d Z' H' φ' st e' hv rw' hp => ?_
      have hp1 : ((seqOf d).bind fun xs => (allStr xs).bind fun ys => if (ys.map (·.length)).sum + ys.length * a.length ≤ 16777216 then some (O.val (.str (Txt.join a ys))) else none) = some r := hp
      obtain ⟨ds, e2, hp2⟩ := Option.bind_eq_some_iff.mp hp1
      obtain ⟨ys, e3, hp3⟩ := Option.bind_eq_some_iff.mp hp2
      obtain ⟨hl, hp4⟩ := ite_some hp3
      cases hp4
      obtain ⟨b, vs, rfl, r1, r2⟩ := rw'.seq e'.sub e2
      rw [r2.strs e3] at r1
      rw [g.k]
      exact ⟨a, b, ys, hv, rfl, r1, hl, (q.cont st e').val e'.sub rfl⟩
    case split =>
      subst h1
      refine PE.weak (pe_split ho hb (starEach_of h4) (base_ok h2) h3) fun σ H Q ⟨Z, ρ, φ, r, ρ', e, hm, q⟩ => ?_
      refine mop1 e hm (fun d hd => by cases d <;> first | exact ⟨_, rfl⟩ | cases hd) fun v w a d Z' H' φ' st e' hv rw' hp => ?_
      have hp1 : (str1 d fun b => if (b.length == 0) = false ∧ a.length + 2 ≤ sizeLine then some (O.lst ((Txt.split a b).map .str)) else none) = some r := hp
      obtain ⟨b', e2, hp2⟩ := str1_some hp1
      subst e2
      obtain ⟨hl, hp3⟩ := ite_some hp2
      cases hp3
      exact ⟨a, b', hv, by rw [rw'.str], hl.1, hl.2, fun p hp => new_lst e'.sub (q.cont st e') (.ofStrs _) hp⟩
    case sindex =>
      subst h1
      refine PE.weak (pe_m1 PySem.F.slot_str_index PySem.F.type_str_index mt_sindex ho hb (starEach_of h4) (base_ok h2) h3) fun σ H Q ⟨Z, ρ, φ, r, ρ', e, hm, q⟩ => ?_
      refine mop1 e hm (fun d hd => by cases d <;> first | exact ⟨_, rfl⟩ | cases hd) fun v w a d Z' H' φ' st e' hv rw' hp => ?_
      have hp1 : (str1 d fun b => match Builtin.Str.occurrences a b 0 a.length 1 with | i :: _ => oi (i : Nat) | [] => none) = some r := hp
      obtain ⟨b', e2, hp2⟩ := str1_some hp1
      subst e2
      cases q5 : Builtin.Str.occurrences a b' 0 a.length 1 with
      | nil => rw [q5] at hp2; cases hp2
      | cons i rest =>
        rw [q5] at hp2
        cases hp2
        exact ⟨a, b', i, rest, hv, by rw [rw'.str], q5, (q.cont st e').val e'.sub rfl⟩
    case get1 =>
      subst h1
      have hu : X.A.units + 1 < cLine := by have := g.hu; omega
      have hst := starEach_of (xs := []) (env := X.env) h4
      refine PE.weak (pe_dgS1 hu ho hb ⟨base_ok h2, by rw [hst]; rfl, h3, by rw [hst]; rfl⟩) fun σ H Q ⟨Z, ρ, φ, r, ρ', e, hm, q⟩ => ?_
      have := mopG (P := fun v H1 => ∃ a, v = .ref a ∧ IsD H1 a) (K := fun v vs H2 => match vs with | [y] => ∃ a o, v = .ref a ∧ DG M.K H2 a y o ∧ Q (o.getD .non) H2 | _ => False) e hm (fun v d Z' H' sb hw hr => by
        cases d <;> first | (cases hr; done) | skip
        · obtain ⟨a, xs, rfl, h5, _⟩ := hw.dctK sb
          exact ⟨a, rfl, .inl ⟨xs, .inl h5⟩⟩
        · obtain ⟨a, xs, rfl, h5, _⟩ := hw.dctT sb
          exact ⟨a, rfl, .inr ⟨xs, .inl h5⟩⟩) fun v vs d ds Z' H' φ' st e' hv ra hp => by
          match ds, vs, ra, hp with
          | [k], vs, ra, hp =>
            obtain ⟨y, ys, rfl, hy, rfl⟩ := ra
            have hp1 : (dget d k).map (fun r => O.val (r.getD .non)) = some r := hp
            obtain ⟨od, h5, rfl⟩ := Option.map_eq_some_iff.mp hp1
            obtain ⟨a, ov, rfl, h6, h7⟩ := dget_rp e'.sub hv hy h5
            refine ⟨a, ov, rfl, h6, (q.cont st e').val e'.sub ?_⟩
            cases od <;> cases ov <;> first | exact h7 | exact h7.elim | exact (rfl : V.non = V.non)
          | [], _, _, hp => cases hp
          | _ :: _ :: _, _, _, hp => cases hp
      rw [g.k]
      refine rdO_mono this fun v H1 ⟨⟨a, h5, h6⟩, h7⟩ => ⟨a, h5, h6, rdO_mono h7 fun y H2 ⟨a', o, h8, h9, h10⟩ => ?_⟩
      subst h5
      cases h8
      exact ⟨o, h9, h10⟩
  · obtain ⟨⟨h1, h2, h2', h3, h4, h4'⟩, hh⟩ := ite_some h
    cases hh
    subst h1 h2
    obtain ⟨b, c, rfl, hb, hc⟩ := hx.es2
    have hu : X.A.units + 1 < cLine := by have := g.hu; omega
    have hst := starEach_of (xs := []) (env := X.env) h4'
    refine PE.weak (pe_dgS2 hu ho hb hc ⟨base_ok h2', by rw [starEach_of h4, hst]; rfl, h3, by rw [starEach_of h4, hst]; rfl⟩) fun σ H Q ⟨Z, ρ, φ, r, ρ', e, hm, q⟩ => ?_
    have := mopG (P := fun v H1 => ∃ a, v = .ref a ∧ IsD H1 a) (K := fun v vs H2 => match vs with | [y, z] => ∃ a o, v = .ref a ∧ DG M.K H2 a y o ∧ Q (o.getD z) H2 | _ => False) e hm (fun v d Z' H' sb hw hr => by
        cases d <;> first | (cases hr; done) | skip
        · obtain ⟨a, xs, rfl, h5, _⟩ := hw.dctK sb
          exact ⟨a, rfl, .inl ⟨xs, .inl h5⟩⟩
        · obtain ⟨a, xs, rfl, h5, _⟩ := hw.dctT sb
          exact ⟨a, rfl, .inr ⟨xs, .inl h5⟩⟩) fun v vs d ds Z' H' φ' st e' hv ra hp => by
        match ds, vs, ra, hp with
        | [k, x], vs, ra, hp =>
          obtain ⟨y, ys, rfl, hy, z, zs, rfl, hz, rfl⟩ := ra
          have hp1 : (match ownless x with | true => (dget d k).map (fun r => O.val (r.getD x)) | false => none) = some r := hp
          cases hw : ownless x with
          | false => rw [hw] at hp1; cases hp1
          | true =>
          rw [hw] at hp1
          obtain ⟨od, h5, rfl⟩ := Option.map_eq_some_iff.mp hp1
          obtain ⟨a, ov, rfl, h6, h7⟩ := dget_rp e'.sub hv hy h5
          have rz : Rp M Z' x z := hz.rp fun o ho => by cases o <;> first | exact ⟨_, rfl⟩ | (subst ho; cases hw)
          refine ⟨a, ov, rfl, h6, (q.cont st e').val e'.sub ?_⟩
          cases od <;> cases ov <;> first | exact h7 | exact h7.elim | exact rz
        | [], _, _, hp => cases hp
        | [_], _, _, hp => cases hp
        | _ :: _ :: _ :: _, _, _, hp => cases hp
    rw [g.k]
    refine rdO_mono this fun v H1 ⟨⟨a, h5, h6⟩, h7⟩ => ⟨a, h5, h6, rdO_mono h7 fun y H2 h8 => rdO_mono h8 fun z H3 ⟨a', o, h9, h10, h11⟩ => ?_⟩
    subst h5
    cases h9
    exact ⟨o, h10, h11⟩
  · obtain ⟨⟨h1, h2, h3, h4⟩, hh⟩ := ite_some h
    cases hh
    subst h1 h2
    have he : es = [] := by
      cases es with
      | nil => rfl
      | cons _ _ => exact hx.elim
    subst he
    refine PE.weak (pe_m0 PySem.F.slot_str_upper PySem.F.type_str_upper mt_upper ho (base_ok h3) h4) fun σ H Q ⟨Z, ρ, φ, r, ρ', e, hm, q⟩ => ?_
    refine mop0 e hm (fun d hd => by cases d <;> first | exact ⟨_, rfl⟩ | cases hd) fun v a Z' H' φ' st e' hv hp => ?_
    have hp1 : (if a.length ≤ 5592405 then some (O.val (.str (Txt.upper a))) else none) = some r := hp
    obtain ⟨hl, hp2⟩ := ite_some hp1
    cases hp2
    exact ⟨a, hv, rfl, hl, (q.cont st e').val e'.sub rfl⟩
  · cases h

/-! ### the whole -/
theorem plain_of {ir : E} (h : ∀ ρ, ev G CL C ir true ρ = match ev G CL C ir false ρ with | none => none | some (o, ρ') => post true o ρ') : Plain G CL C ir := fun ρ p hp => by
  rw [h] at hp
  cases q : ev G CL C ir false ρ with
  | none => rw [q] at hp; cases hp
  | some w => obtain ⟨o, ρ'⟩ := w; rw [q] at hp; exact ⟨o, ρ', rfl, hp⟩
theorem chain_ok (g : Gd M T G CL C n X s) {p q : Pr} {a b c : E} {o1 o2 : CmpOp} (h1 : cmpOf p = some o1) (h2 : cmpOf q = some o2) {r r' : R2} (sp : Srv M p r) (sq : Srv M q r') {σ : L2.St} {H : Hp} {Z : Hp} {ρ ρ' : Env} {φ : Nat → List Addr} {b0 : Bool} {K : VK} {m : Bool}
    (e : EOk M Z H σ ρ φ) (hm : ev G CL C (.cmp2 p q a b c) m ρ = some (.val (.bl b0), ρ')) (k : ∀ Z' H' φ', Stp Z H (Own ρ φ) Z' H' (Own ρ' φ') → EOk M Z' H' σ ρ' φ' → K (.bl b0) H') :
    tChain r r' (rdV M G CL C a) (rdV M G CL C b) (rdV M G CL C c) σ H K := by
  unfold ev at hm
  cases q1 : ev G CL C a false ρ with
  | none => rw [q1] at hm; cases hm
  | some w1 =>
  obtain ⟨x, ρ1⟩ := w1
  rw [q1] at hm
  simp only at hm
  cases q2 : ev G CL C b false ρ1 with
  | none => rw [q2] at hm; cases hm
  | some w2 =>
  obtain ⟨y, ρ2⟩ := w2
  rw [q2] at hm
  simp only at hm
  refine ⟨Z, ρ, φ, x, ρ1, e, q1, fun v Z1 H1 φ1 f st1 e1 r1 hf1 => ?_⟩
  obtain ⟨Z2, st2, e2, rp2⟩ := frozen st1 e1 r1 hf1
  refine ⟨Z2, ρ1, φ1, y, ρ2, e2, q2, fun w Z3 H3 φ3 f3 st3 e3 r3 hf3 => ?_⟩
  obtain ⟨Z4, st4, e4, rp4⟩ := frozen st3 e3 r3 hf3
  cases q3 : prim p [x.frz, y.frz] with
  | none => rw [q3] at hm; cases hm
  | some o =>
  obtain ⟨k1, rfl⟩ := cmp_bl h1 q3
  rw [q3] at hm
  refine sp Z4 H3 v w _ _ _ _ e4.sub (.of (Rp.mono st4.zz _ _ rp2)) (.of rp4) q3 fun u Z5 H5 f5 x5 r5 => ?_
  obtain ⟨rfl, r5⟩ := r5
  refine ⟨k1, r5, ?_⟩
  have st5 := (st2.trans st4).trans x5.stp
  have e5 := e4.ext x5
  cases k1 with
  | false =>
    simp only [Option.some.injEq, Prod.mk.injEq, O.val.injEq, D.bl.injEq] at hm
    obtain ⟨rfl, rfl⟩ := hm
    exact iteF (k Z5 H5 φ3 (st5.less fun a z => .inl z) e5)
  | true =>
    simp only at hm
    refine iteT ?_
    cases q4 : ev G CL C c false ρ2 with
    | none => rw [q4] at hm; cases hm
    | some w4 =>
    obtain ⟨z, ρ3⟩ := w4
    rw [q4] at hm
    simp only at hm
    refine ⟨Z5, ρ2, φ3, z, ρ3, e5, q4, fun w' Z6 H6 φ6 f6 st6 e6 r6 hf6 => ?_⟩
    obtain ⟨Z7, st7, e7, rp7⟩ := frozen st6 e6 r6 hf6
    cases q5 : prim q [y.frz, z.frz] with
    | none => rw [q5] at hm; cases hm
    | some o' =>
    obtain ⟨k2, rfl⟩ := cmp_bl h2 q5
    rw [q5] at hm
    simp only [Option.some.injEq, Prod.mk.injEq, O.val.injEq, D.bl.injEq] at hm
    obtain ⟨rfl, rfl⟩ := hm
    refine sq Z7 H6 w w' _ _ _ _ e7.sub (.of (Rp.mono (x5.zz.trans st7.zz) _ _ rp4)) (.of rp7) q5 fun u' Z8 H8 f8 x8 r8 => ?_
    obtain ⟨rfl, r8⟩ := r8
    have r8 : u' = V.bl k2 := r8
    subst r8
    exact k Z8 H8 φ6 (((st5.less fun a z => .inl z).trans st7).trans x8.stp |>.less fun a z => .inl z) (e7.ext x8)
end
end EV

namespace EV
open PyProof.Rows PySem L2 PySem.Spec
section
variable {M : Mt} {T : Stat} {G : List D} {CL : List (List Nat)} {C : CallF} {n : Nat} {X : Cx} {s : Sc}
theorem PEs.nil_iff {xs : List Expr} (h : PEs X xs []) : xs = [] := by cases xs with | nil => rfl | cons _ _ => exact h.elim
theorem tup_ok {es : List E} {xs : List Expr} {k : Nat} {pos : Pos} (h : PEs X xs (es.map (rdV M G CL C))) (hs : xs.all notStar = true) : PE X (.Tuple xs k pos) (tM M (ev G CL C (.tup es) false)) := by
  refine PE.weak (pe_tup (pa_of h hs)) fun σ H Q ⟨Z, ρ, φ, o, ρ', e, hm, q⟩ => ?_
  unfold ev at hm
  cases q1 : evV G CL C es ρ with
  | none => rw [q1] at hm; cases hm
  | some w =>
    obtain ⟨ds, ρ1⟩ := w
    rw [q1] at hm
    obtain ⟨hz, hm⟩ := ite_some hm
    cases hm
    exact vals_ok es e q1 fun vs Z1 H1 φ1 st e1 ra => ⟨by rw [ra.length]; exact hz, fun p hp => new_tup e1.sub (q.cont st e1) ra hp⟩
theorem lst_ok {es : List E} {xs : List Expr} {pos : Pos} (h : PEs X xs (es.map (rdV M G CL C))) (hs : xs.all notStar = true) : PE X (.List xs pos) (tM M (ev G CL C (.lst es) false)) := by
  refine PE.weak (pe_lst (pa_of h hs)) fun σ H Q ⟨Z, ρ, φ, o, ρ', e, hm, q⟩ => ?_
  unfold ev at hm
  cases q1 : evV G CL C es ρ with
  | none => rw [q1] at hm; cases hm
  | some w =>
    obtain ⟨ds, ρ1⟩ := w
    rw [q1] at hm
    obtain ⟨hz, hm⟩ := ite_some hm
    cases hm
    exact vals_ok es e q1 fun vs Z1 H1 φ1 st e1 ra => ⟨by rw [ra.length]; exact hz, fun p hp => new_lst e1.sub (q.cont st e1) ra hp⟩
/-- a value run, then what comes of it -/
theorem rd_then {a : E} {σ : L2.St} {H Z : Hp} {ρ ρ' : Env} {φ : Nat → List Addr} {o : O} {K : VK} (e : EOk M Z H σ ρ φ) (h : ev G CL C a false ρ = some (o, ρ'))
    (k : ∀ v Z' H' φ', Stp Z H (Own ρ φ) Z' H' (Own ρ' φ') → EOk M Z' H' σ ρ' φ' → Rp M Z' o.frz v → K v H') : tM M (ev G CL C a false) σ H K :=
  ⟨Z, ρ, φ, o, ρ', e, h, fun v Z1 H1 φ1 f st e1 r hf => by
    obtain ⟨Z2, st2, e2, rp⟩ := frozen st e1 r hf
    exact k v Z2 H1 φ1 st2 e2 rp⟩
theorem Rp.bl {Z : Hp} {b : Bool} {v : V} (h : Rp M Z (.bl b) v) : v = .bl b := h
theorem and_ok {a b : E} {x y : Expr} {r : List Expr} {pos : Pos} (ha : PE X x (tM M (ev G CL C a false))) (hb : PE X (match r with | [] => y | _ => .BoolOp .And (y :: r) pos) (tM M (ev G CL C b false))) :
    PE X (.BoolOp .And (x :: y :: r) pos) (tM M (ev G CL C (.and a b) false)) := by
  have hb' : PE X (.BoolOp .And (y :: r) pos) (tM M (ev G CL C b false)) := by
    cases r with
    | nil => exact pe_one hb
    | cons _ _ => exact hb
  refine PE.weak (pe_and ha hb') fun σ H Q ⟨Z, ρ, φ, o, ρ', e, hm, q⟩ => ?_
  unfold ev at hm
  cases q1 : ev G CL C a false ρ with
  | none => rw [q1] at hm; cases hm
  | some w =>
    obtain ⟨o1, ρ1⟩ := w
    rw [q1] at hm
    simp only at hm
    refine rd_then e q1 fun v Z1 H1 φ1 st e1 rp => ?_
    split at hm
    · rename_i h1
      rw [h1] at rp
      exact ⟨true, rp, iteT ⟨Z1, ρ1, φ1, o, ρ', e1, hm, q.then st⟩⟩
    · rename_i h1
      rw [h1] at rp
      cases hm
      exact ⟨false, rp, iteF ((q.cont st e1).val e1.sub rfl)⟩
    · cases hm
theorem or_ok {a b : E} {x y : Expr} {r : List Expr} {pos : Pos} (ha : PE X x (tM M (ev G CL C a false))) (hb : PE X (match r with | [] => y | _ => .BoolOp .Or (y :: r) pos) (tM M (ev G CL C b false))) :
    PE X (.BoolOp .Or (x :: y :: r) pos) (tM M (ev G CL C (.or a b) false)) := by
  have hb' : PE X (.BoolOp .Or (y :: r) pos) (tM M (ev G CL C b false)) := by
    cases r with
    | nil => exact pe_one hb
    | cons _ _ => exact hb
  refine PE.weak (pe_or ha hb') fun σ H Q ⟨Z, ρ, φ, o, ρ', e, hm, q⟩ => ?_
  unfold ev at hm
  cases q1 : ev G CL C a false ρ with
  | none => rw [q1] at hm; cases hm
  | some w =>
    obtain ⟨o1, ρ1⟩ := w
    rw [q1] at hm
    simp only at hm
    refine rd_then e q1 fun v Z1 H1 φ1 st e1 rp => ?_
    split at hm
    · rename_i h1
      rw [h1] at rp
      cases hm
      exact ⟨true, rp, iteT ((q.cont st e1).val e1.sub rfl)⟩
    · rename_i h1
      rw [h1] at rp
      exact ⟨false, rp, iteF ⟨Z1, ρ1, φ1, o, ρ', e1, hm, q.then st⟩⟩
    · cases hm
/-- a test's run tells a truth -/
theorem post_bl {o r : O} {ρ ρ' : Env} (h : post true o ρ = some (r, ρ')) : ∃ b, r = .val (.bl b) := let ⟨b, _, h, _⟩ := post_true h; ⟨b, h⟩
theorem tst_bl : ∀ (a : E) {ρ ρ' : Env} {o : O}, ev G CL C a true ρ = some (o, ρ') → ∃ b, o = .val (.bl b)
  | .fail, _, _, _, h => by cases h
  | .lit d, _, _, _, h => post_bl h
  | .rf _, _, _, _, h => by cases h
  | .dct0 t, _, _, _, h => post_bl h
  | .and a b, ρ, ρ', o, h => by
    unfold ev at h
    split at h
    · cases h
    · split at h
      · exact tst_bl b h
      · cases h; exact ⟨_, rfl⟩
      · cases h
  | .or a b, ρ, ρ', o, h => by
    unfold ev at h
    split at h
    · cases h
    · split at h
      · cases h; exact ⟨_, rfl⟩
      · exact tst_bl b h
      · cases h
  | .not a, ρ, ρ', o, h => by
    unfold ev at h
    split at h
    · cases h
    · split at h
      · cases h; exact ⟨_, rfl⟩
      · cases h
  | .ite c a b, ρ, ρ', o, h => by
    unfold ev at h
    cases h
  | .cmp2 p q a b c, ρ, ρ', o, h => by
    unfold ev at h
    repeat' split at h
    all_goals first | (cases h; done) | (cases h; exact ⟨_, rfl⟩)
  | .var i, ρ, ρ', o, h => by
    unfold ev at h
    repeat' split at h
    all_goals first | exact post_bl h | cases h
  | .mv i, ρ, ρ', o, h => by
    unfold ev at h
    repeat' split at h
    all_goals first | exact post_bl h | cases h
  | .sh i, ρ, ρ', o, h => by
    unfold ev at h
    repeat' split at h
    all_goals first | exact post_bl h | cases h
  | .bw i, ρ, ρ', o, h => by
    unfold ev at h
    simp only at h
    repeat' split at h
    all_goals first | exact post_bl h | cases h
  | .glob g, ρ, ρ', o, h => by
    unfold ev at h
    repeat' split at h
    all_goals first | exact post_bl h | cases h
  | .op p es, ρ, ρ', o, h => by
    unfold ev at h
    repeat' split at h
    all_goals first | exact post_bl h | cases h
  | .mop p a es, ρ, ρ', o, h => by
    unfold ev at h
    repeat' split at h
    all_goals first | exact post_bl h | cases h
  | .tup es, ρ, ρ', o, h => by
    unfold ev at h
    repeat' split at h
    all_goals first | exact post_bl h | cases h
  | .lst es, ρ, ρ', o, h => by
    unfold ev at h
    repeat' split at h
    all_goals first | exact post_bl h | cases h
  | .call f es, ρ, ρ', o, h => by
    unfold ev at h
    repeat' split at h
    all_goals first | exact post_bl h | cases h
  | .meth f a es, ρ, ρ', o, h => by
    unfold ev at h
    repeat' split at h
    all_goals first | exact post_bl h | cases h
  | .new c es, ρ, ρ', o, h => by
    unfold ev at h
    repeat' split at h
    all_goals first | exact post_bl h | (cases h; done) | (rename_i hh; exact absurd hh.1 (by decide))
  | .pop i, ρ, ρ', o, h => by
    unfold ev at h
    repeat' split at h
    all_goals first | exact post_bl h | cases h
  | .popAt i e, ρ, ρ', o, h => by
    unfold ev at h
    repeat' split at h
    all_goals first | exact post_bl h | cases h
  | .comp tg k es cs e, ρ, ρ', o, h => by
    unfold ev at h
    repeat' split at h
    all_goals first | exact post_bl h | cases h
  | .frz e, ρ, ρ', o, h => by
    unfold ev at h
    repeat' split at h
    all_goals first | exact post_bl h | cases h
  | .fr e, ρ, ρ', o, h => by
    unfold ev at h
    cases h
  | .dctOf t es, ρ, ρ', o, h => by
    unfold ev at h
    repeat' split at h
    all_goals first | exact post_bl h | cases h
theorem tt_then {a : E} {σ : L2.St} {H Z : Hp} {ρ ρ' : Env} {φ : Nat → List Addr} {b : Bool} {K : Bool → Hp → Prop} (e : EOk M Z H σ ρ φ) (h : ev G CL C a true ρ = some (.val (.bl b), ρ'))
    (k : ∀ Z' H' φ', Stp Z H (Own ρ φ) Z' H' (Own ρ' φ') → EOk M Z' H' σ ρ' φ' → K b H') : tT M (ev G CL C a true) σ H K := ⟨Z, ρ, φ, b, ρ', e, h, k⟩
theorem tand_ok {a b : E} {x y : Expr} {r : List Expr} {pos : Pos} (ha : PT X x (tT M (ev G CL C a true))) (hb : PW X (.BoolOp .And (y :: r) pos) (tT M (ev G CL C b true))) :
    PW X (.BoolOp .And (x :: y :: r) pos) (tT M (ev G CL C (.and a b) true)) := by
  refine ⟨fun whole pins s σ H Q I ⟨Z, ρ, φ, o, ρ', e, hm, q⟩ => (pw_and ha hb).run whole pins s σ H Q I ?_⟩
  unfold ev at hm
  cases q1 : ev G CL C a true ρ with
  | none => rw [q1] at hm; cases hm
  | some w =>
    obtain ⟨o1, ρ1⟩ := w
    obtain ⟨b1, rfl⟩ := tst_bl a q1
    rw [q1] at hm
    refine tt_then e q1 fun Z1 H1 φ1 st e1 => ?_
    cases b1 with
    | true =>
      have hm : ev G CL C b true ρ1 = some (.val (.bl o), ρ') := hm
      exact iteT (tt_then e1 hm fun Z2 H2 φ2 st2 e2 => q Z2 H2 φ2 (st.trans st2) e2)
    | false =>
      have hm : some (O.val (.bl false), ρ1) = some (.val (.bl o), ρ') := hm
      cases hm
      exact iteF (q Z1 H1 φ1 st e1)
theorem tor_ok {a b : E} {x y : Expr} {r : List Expr} {pos : Pos} (ha : PT X x (tT M (ev G CL C a true))) (hb : PW X (.BoolOp .Or (y :: r) pos) (tT M (ev G CL C b true))) :
    PW X (.BoolOp .Or (x :: y :: r) pos) (tT M (ev G CL C (.or a b) true)) := by
  refine ⟨fun whole pins s σ H Q I ⟨Z, ρ, φ, o, ρ', e, hm, q⟩ => (pw_or ha hb).run whole pins s σ H Q I ?_⟩
  unfold ev at hm
  cases q1 : ev G CL C a true ρ with
  | none => rw [q1] at hm; cases hm
  | some w =>
    obtain ⟨o1, ρ1⟩ := w
    obtain ⟨b1, rfl⟩ := tst_bl a q1
    rw [q1] at hm
    refine tt_then e q1 fun Z1 H1 φ1 st e1 => ?_
    cases b1 with
    | true =>
      have hm : some (O.val (.bl true), ρ1) = some (.val (.bl o), ρ') := hm
      cases hm
      exact iteT (q Z1 H1 φ1 st e1)
    | false =>
      have hm : ev G CL C b true ρ1 = some (.val (.bl o), ρ') := hm
      exact iteF (tt_then e1 hm fun Z2 H2 φ2 st2 e2 => q Z2 H2 φ2 (st.trans st2) e2)
theorem not_ok {a : E} {x : Expr} {pos : Pos} (ha : PE X x (tM M (ev G CL C a false))) : PE X (.UnaryOp .Not x pos) (tM M (ev G CL C (.not a) false)) := by
  refine PE.weak (pe_not ha) fun σ H Q ⟨Z, ρ, φ, o, ρ', e, hm, q⟩ => ?_
  unfold ev at hm
  cases q1 : ev G CL C a false ρ with
  | none => rw [q1] at hm; cases hm
  | some w =>
    obtain ⟨o1, ρ1⟩ := w
    rw [q1] at hm
    simp only at hm
    refine rd_then e q1 fun v Z1 H1 φ1 st e1 rp => ?_
    split at hm
    · rename_i b h1
      rw [h1] at rp
      cases hm
      exact ⟨b, rp, (q.cont st e1).val e1.sub rfl⟩
    · cases hm
theorem tnot_ok {a : E} {x : Expr} {pos : Pos} (ha : PT X x (tT M (ev G CL C a true))) : PT X (.UnaryOp .Not x pos) (tT M (ev G CL C (.not a) true)) := by
  refine PT.weak (pt_not ha) fun σ H Q ⟨Z, ρ, φ, o, ρ', e, hm, q⟩ => ?_
  unfold ev at hm
  cases q1 : ev G CL C a true ρ with
  | none => rw [q1] at hm; cases hm
  | some w =>
    obtain ⟨o1, ρ1⟩ := w
    obtain ⟨b1, rfl⟩ := tst_bl a q1
    rw [q1] at hm
    have hm : some (O.val (.bl !b1), ρ1) = some (.val (.bl o), ρ') := hm
    cases hm
    exact tt_then e q1 fun Z1 H1 φ1 st e1 => q Z1 H1 φ1 st e1
theorem ite_ok {c a b : E} {x y z : Expr} {pos : Pos} (hc : PT X x (tT M (ev G CL C c true))) (ha : PE X y (tM M (ev G CL C a false))) (hb : PE X z (tM M (ev G CL C b false))) : PE X (.IfExp x y z pos) (tM M (ev G CL C (.ite c a b) false)) := by
  refine PE.weak (pe_ifExp hc ha hb) fun σ H Q ⟨Z, ρ, φ, o, ρ', e, hm, q⟩ => ?_
  unfold ev at hm
  simp only at hm
  cases q1 : ev G CL C c true ρ with
  | none => rw [q1] at hm; cases hm
  | some w =>
    obtain ⟨o1, ρ1⟩ := w
    obtain ⟨b1, rfl⟩ := tst_bl c q1
    rw [q1] at hm
    refine tt_then e q1 fun Z1 H1 φ1 st e1 => ?_
    cases b1 with
    | true =>
      have hm : ev G CL C a false ρ1 = some (o, ρ') := hm
      exact iteT ⟨Z1, ρ1, φ1, o, ρ', e1, hm, q.then st⟩
    | false =>
      have hm : ev G CL C b false ρ1 = some (o, ρ') := hm
      exact iteF ⟨Z1, ρ1, φ1, o, ρ', e1, hm, q.then st⟩
end
end EV

namespace EV
open PyProof.Rows PySem L2 PySem.Spec
/-! dict(list of pairs) -/
section
variable {M : Mt} {T : Stat} {G : List D} {CL : List (List Nat)} {C : CallF} {n : Nat} {X : Cx} {s : Sc}
theorem rpk_any {Z : Hp} : ∀ {ds : List (Key × D)} {vs : List (Key × V)} (k : Key), RpK M Z ds vs → (vs.any fun kv => decide (kv.1 = k)) = ds.any fun kv => decide (kv.1 = k)
  | [], _, _, h => by cases h; rfl
  | (k', d) :: ds, _, k, h => by
    obtain ⟨v, vs, rfl, h1, h2⟩ := h
    simp only [List.any_cons, rpk_any k h2]
theorem rpk_map {Z : Hp} {d0 : D} {v0 : V} (h0 : Rp M Z d0 v0) (k : Key) : ∀ {ds : List (Key × D)} {vs : List (Key × V)}, RpK M Z ds vs → RpK M Z (ds.map fun kv => if kv.1 = k then (kv.1, d0) else kv) (vs.map fun kv => if kv.1 = k then (kv.1, v0) else kv)
  | [], _, h => by cases h; simp [RpK]
  | (k', d) :: ds, _, h => by
    obtain ⟨v, vs, rfl, h1, h2⟩ := h
    have ih := rpk_map h0 k h2
    simp only [List.map_cons]
    by_cases e : k' = k
    · rw [if_pos e, if_pos e]; exact ⟨v0, _, rfl, h0, ih⟩
    · rw [if_neg e, if_neg e]; exact ⟨v, _, rfl, h1, ih⟩
theorem rpk_snoc {Z : Hp} {d0 : D} {v0 : V} (h0 : Rp M Z d0 v0) (k : Key) : ∀ {ds : List (Key × D)} {vs : List (Key × V)}, RpK M Z ds vs → RpK M Z (ds ++ [(k, d0)]) (vs ++ [(k, v0)])
  | [], _, h => by cases h; exact ⟨v0, [], rfl, h0, rfl⟩
  | (k', d) :: ds, _, h => by
    obtain ⟨v, vs, rfl, h1, h2⟩ := h
    exact ⟨v, _, rfl, h1, rpk_snoc h0 k h2⟩
theorem rpk_put {Z : Hp} {d0 : D} {v0 : V} (h0 : Rp M Z d0 v0) (k : Key) {ds : List (Key × D)} {vs : List (Key × V)} (h : RpK M Z ds vs) : RpK M Z (aput ds k d0) (putK vs k v0) := by
  unfold aput putK
  rw [rpk_any k h]
  split
  · exact rpk_map h0 k h
  · exact rpk_snoc h0 k h
theorem rpt_any {Z : Hp} : ∀ {ds : List (List Key × D)} {vs : List (List Key × V)} (k : List Key), RpT M Z ds vs → (vs.any fun kv => decide (kv.1 = k)) = ds.any fun kv => decide (kv.1 = k)
  | [], _, _, h => by cases h; rfl
  | (k', d) :: ds, _, k, h => by
    obtain ⟨v, vs, rfl, h1, h2⟩ := h
    simp only [List.any_cons, rpt_any k h2]
theorem rpt_map {Z : Hp} {d0 : D} {v0 : V} (h0 : Rp M Z d0 v0) (k : List Key) : ∀ {ds : List (List Key × D)} {vs : List (List Key × V)}, RpT M Z ds vs → RpT M Z (ds.map fun kv => if kv.1 = k then (kv.1, d0) else kv) (vs.map fun kv => if kv.1 = k then (kv.1, v0) else kv)
  | [], _, h => by cases h; simp [RpT]
  | (k', d) :: ds, _, h => by
    obtain ⟨v, vs, rfl, h1, h2⟩ := h
    have ih := rpt_map h0 k h2
    simp only [List.map_cons]
    by_cases e : k' = k
    · rw [if_pos e, if_pos e]; exact ⟨v0, _, rfl, h0, ih⟩
    · rw [if_neg e, if_neg e]; exact ⟨v, _, rfl, h1, ih⟩
theorem rpt_snoc {Z : Hp} {d0 : D} {v0 : V} (h0 : Rp M Z d0 v0) (k : List Key) : ∀ {ds : List (List Key × D)} {vs : List (List Key × V)}, RpT M Z ds vs → RpT M Z (ds ++ [(k, d0)]) (vs ++ [(k, v0)])
  | [], _, h => by cases h; exact ⟨v0, [], rfl, h0, rfl⟩
  | (k', d) :: ds, _, h => by
    obtain ⟨v, vs, rfl, h1, h2⟩ := h
    exact ⟨v, _, rfl, h1, rpt_snoc h0 k h2⟩
theorem rpt_put {Z : Hp} {d0 : D} {v0 : V} (h0 : Rp M Z d0 v0) (k : List Key) {ds : List (List Key × D)} {vs : List (List Key × V)} (h : RpT M Z ds vs) : RpT M Z (aput ds k d0) (putK vs k v0) := by
  unfold aput putK
  rw [rpt_any k h]
  split
  · exact rpt_map h0 k h
  · exact rpt_snoc h0 k h
theorem rpk_merg {Z : Hp} : ∀ {kvs : List (Key × D)} {vs : List (Key × V)} {acc : List (Key × D)} {av : List (Key × V)}, RpK M Z kvs vs → RpK M Z acc av → RpK M Z (mergA acc kvs) (mergeK av vs)
  | [], _, _, _, h, ha => by cases h; exact ha
  | (k, d) :: kvs, _, acc, av, h, ha => by
    obtain ⟨v, vs, rfl, h1, h2⟩ := h
    show RpK M Z (mergA (aput acc k d) kvs) (mergeK (putK av k v) vs)
    exact rpk_merg h2 (rpk_put h1 k ha)
theorem rpt_merg {Z : Hp} : ∀ {kvs : List (List Key × D)} {vs : List (List Key × V)} {acc : List (List Key × D)} {av : List (List Key × V)}, RpT M Z kvs vs → RpT M Z acc av → RpT M Z (mergA acc kvs) (mergeT av vs)
  | [], _, _, _, h, ha => by cases h; exact ha
  | (k, d) :: kvs, _, acc, av, h, ha => by
    obtain ⟨v, vs, rfl, h1, h2⟩ := h
    show RpT M Z (mergA (aput acc k d) kvs) (mergeT (putK av k v) vs)
    exact rpt_merg h2 (rpt_put h1 k ha)
theorem pair_rp {Z H : Hp} (sb : Sub Z H) {k v : D} {x : V} (h : Rp M Z (.tup [k, v]) x) : ∃ p y z, x = .ref p ∧ SqT M.K H p [y, z] ∧ Rp M Z k y ∧ Rp M Z v z := by
  obtain ⟨p, xs, rfl, h1, y, ys, rfl, h2, z, zs, rfl, h3, rfl⟩ := h
  exact ⟨p, y, z, rfl, sb.st h1.sq, h2, h3⟩
theorem pairsK_rp {Z H : Hp} (sb : Sub Z H) : ∀ {xs : List D} {ws : List V} {kvs : List (Key × D)}, RpA M Z xs ws → pairsK xs = some kvs → ∃ ps vs, ws = ps.map V.ref ∧ Paired (fun p kv => SqT M.K H p [kV kv.1, kv.2]) ps vs ∧ RpK M Z kvs vs
  | [], _, _, h, e => by cases h; cases e; exact ⟨[], [], rfl, .nil, rfl⟩
  | d :: xs, _, kvs, h, e => by
    obtain ⟨w, ws, rfl, h1, h2⟩ := h
    unfold pairsK at e
    split at e
    · cases ‹_ :: _ = []›
    · rename_i k v r hd
      cases hd
      cases q1 : key1 k with
      | none => rw [q1] at e; cases e
      | some κ =>
        cases q2 : pairsK xs with
        | none => rw [q1, q2] at e; cases e
        | some l =>
          rw [q1, q2] at e
          cases e
          obtain ⟨p, y, z, rfl, g1, g2, g3⟩ := pair_rp sb h1
          have hy := key1_rp (H := H) (RpW.of g2) q1
          subst hy
          obtain ⟨ps, vs, rfl, t1, t2⟩ := pairsK_rp sb h2 q2
          exact ⟨p :: ps, (κ, z) :: vs, rfl, .cons g1 t1, z, vs, rfl, g3, t2⟩
    · cases e
theorem pairsT_rp {Z H : Hp} (sb : Sub Z H) : ∀ {xs : List D} {ws : List V} {kvs : List (List Key × D)}, RpA M Z xs ws → pairsT M.gk xs = some kvs → ∃ ps vs, ws = ps.map V.ref ∧ Paired (PairT M.K H) ps vs ∧ RpT M Z kvs vs
  | [], _, _, h, e => by cases h; cases e; exact ⟨[], [], rfl, .nil, rfl⟩
  | d :: xs, _, kvs, h, e => by
    obtain ⟨w, ws, rfl, h1, h2⟩ := h
    unfold pairsT at e
    split at e
    · cases ‹_ :: _ = []›
    · rename_i k v r hd
      cases hd
      cases q1 : keyT k with
      | none => rw [q1] at e; cases e
      | some κ =>
        cases q2 : pairsT M.gk xs with
        | none => rw [q1, q2] at e; cases e
        | some l =>
          rw [q1, q2] at e
          simp only at e
          by_cases q3 : inGk M.gk κ = true
          · rw [if_pos q3] at e; cases e
          rw [if_neg q3] at e
          cases e
          obtain ⟨p, y, z, rfl, g1, g2, g3⟩ := pair_rp sb h1
          cases k with
          | tup ks =>
            obtain ⟨b, us, rfl, tr, ra⟩ := g2
            have hb : H b = some (.tup (κ.map kV)) := by
              rcases tr with tr | ⟨_, tr⟩
              · rw [← keys1_rp ra q1]; exact sb _ _ tr
              · exact absurd (inGk_iff.mpr (tr κ q1)) q3
            obtain ⟨ps, vs, rfl, t1, t2⟩ := pairsT_rp sb h2 q2
            exact ⟨p :: ps, (κ, z) :: vs, rfl, .cons ⟨b, g1, hb⟩ t1, z, vs, rfl, g3, t2⟩
          | _ => cases q1
    · cases e
theorem dctOf_ev {t : Bool} {es : List E} {ρ ρ' : Env} {o : O} (h : ev G CL C (.dctOf t es) false ρ = some (o, ρ')) : ∃ ds, evO G CL C es ρ = some (ds, ρ') ∧ dictO (gkA G) t ds = some o := by
  unfold ev at h
  cases q : evO G CL C es ρ with
  | none => rw [q] at h; cases h
  | some w =>
    obtain ⟨ds, ρ1⟩ := w
    rw [q] at h
    simp only at h
    cases q2 : dictO (gkA G) t ds with
    | none => rw [q2] at h; cases h
    | some o' => rw [q2] at h; simp only [post, Option.some.injEq, Prod.mk.injEq] at h; obtain ⟨rfl, rfl⟩ := h; exact ⟨ds, rfl, q2⟩
theorem dctOf_pe (g : Gd M T G CL C n X s) {t : Bool} {es : List E} {a0 : Expr} {p pos : Pos} (h1 : gl s "dict" = true) (h2 : notStar a0 = true) (ha : PEs X [a0] (es.map (rdO M G CL C))) :
    PE X (.Call (.Name "dict" p) [a0] [] pos) (tM M (ev G CL C (.dctOf t es) false)) := by
  obtain ⟨g1, g2, g3⟩ := g.gl h1
  have hu : X.A.units + 60 < cLine := by have := g.hu; omega
  match es, ha with
  | [a], ha =>
  cases t with
  | false =>
    refine PE.weak (pe_callTy (call_dictP (X := X) g.calm) g1 (g.blt _ (by decide)) boot_dict (pa_cons ha.1 pa_nil (starEach_of h2)) g3 g2 (starEach_of h2) rfl) fun σ H Q ⟨Z, ρ, φ, o, ρ', e, hm, q⟩ => ?_
    obtain ⟨ds, e1, e2⟩ := dctOf_ev hm
    refine ops_ok (K := fun vs H2 => ∃ (a : Addr) (ps : List Addr) (kvs : List (Key × V)), vs = [.ref a] ∧ SqL X.K H2 a (ps.map V.ref) ∧ Paired (fun p kv => SqT X.K H2 p [kV kv.1, kv.2]) ps kvs ∧ ∀ p, H2 p = none → Q (.ref p) (upd H2 p (.dK (mergeK [] kvs)))) [a] e e1 fun vs Z1 H1 φ1 st e1' ra => ?_
    match ds, evO_len e1, ra, e2 with
    | [.lst xs], _, ra, e2 =>
      obtain ⟨v, vs, rfl, r1, rfl⟩ := ra
      obtain ⟨kvs, q1, rfl⟩ := Option.map_eq_some_iff.mp (show (pairsK xs).map _ = some o from e2)
      obtain ⟨b, ws, rfl, h4, h5⟩ := r1.lst e1'.sub
      obtain ⟨ps, us, rfl, t1, t2⟩ := pairsK_rp e1'.sub h5 q1
      rw [← g.k] at h4 t1
      exact ⟨b, ps, us, rfl, h4, t1, fun l hl => new_dK e1'.sub (q.cont st e1') (rpk_merg t2 rfl) hl⟩
  | true =>
    refine PE.weak (pe_callTy (call_dictT (X := X) hu g.calm) g1 (g.blt _ (by decide)) boot_dict (pa_cons ha.1 pa_nil (starEach_of h2)) g3 g2 (starEach_of h2) rfl) fun σ H Q ⟨Z, ρ, φ, o, ρ', e, hm, q⟩ => ?_
    obtain ⟨ds, e1, e2⟩ := dctOf_ev hm
    refine ops_ok (K := fun vs H2 => ∃ (a : Addr) (ps : List Addr) (kvs : List (List Key × V)), vs = [.ref a] ∧ SqL X.K H2 a (ps.map V.ref) ∧ Paired (PairT X.K H2) ps kvs ∧ ∀ p, H2 p = none → Q (.ref p) (upd H2 p (.dT (mergeT [] kvs)))) [a] e e1 fun vs Z1 H1 φ1 st e1' ra => ?_
    match ds, evO_len e1, ra, e2 with
    | [.lst xs], _, ra, e2 =>
      obtain ⟨v, vs, rfl, r1, rfl⟩ := ra
      obtain ⟨kvs, q1, rfl⟩ := Option.map_eq_some_iff.mp (show (pairsT (gkA G) xs).map _ = some o from e2)
      rw [← g.gk] at q1
      obtain ⟨b, ws, rfl, h4, h5⟩ := r1.lst e1'.sub
      obtain ⟨ps, us, rfl, t1, t2⟩ := pairsT_rp e1'.sub h5 q1
      rw [← g.k] at h4 t1
      exact ⟨b, ps, us, rfl, h4, t1, fun l hl => new_dT e1'.sub (q.cont st e1') (rpt_merg t2 rfl) hl⟩
end
end EV

namespace EV
open PyProof.Rows PySem L2 PySem.Spec
section
variable {M : Mt} {T : Stat} {G : List D} {CL : List (List Nat)} {C : CallF} {n : Nat} {X : Cx} {s : Sc}
theorem stars_all {env : PySem.Env} {pos : Pos} : ∀ {xs : List Expr}, xs.all notStar = true → (backTo pos (starEach xs env)).all (fun x => !x.1) = true
  | [], _ => rfl
  | x :: xs, h => by
    rw [List.all_cons, Bool.and_eq_true] at h
    rw [starEach_of h.1]
    show (true && (backTo pos (starEach xs env)).all (fun x => !x.1)) = true
    rw [stars_all h.2]
    rfl
theorem meth_eq {o : Expr} {m : Str} {apos pos : Pos} {env : PySem.Env} {es : List Expr} (hb : okBase o = true) (hs : es.all notStar = true) (hn : es.length < 29) (hl : (apos.endLine == pos.line) = true) :
    eval (.Call (.Attribute o m apos) es [] pos) env = (do
      let ov ← eval o env
      standAt apos.atName
      let (f, first) ← holding [ov] (getMethod ov m (do return (← importBound o env).getD true))
      callWith pos f first (backTo pos (starEach es env)) (backToKw pos (keywordEach [] env))) := by
  show (do
    let ov ← attributeBase o m env (eval o env)
    standAt apos.atName
    methodCall o m apos pos env ov (es.length + 0) (backTo pos (starEach es env)) (backToKw pos (keywordEach [] env))) = _
  rw [base_ok hb]
  have hf : methodCallForm (es.length + 0) (backTo pos (starEach es env)) (backToKw pos (keywordEach [] env)) = true := by
    unfold methodCallForm
    rw [stars_all hs]
    show (true && decide (es.length + 0 + 0 < 30)) = true
    simp
    omega
  congr
  funext ov
  congr
  funext _
  unfold methodCall
  rw [hf]
  have hp : methodCallPos true o env apos pos = pure pos := by
    unfold methodCallPos
    rw [hl]
    rfl
  rw [hp]
  rfl
theorem nil_app {vs : List V} : vs ++ ([] : List V) = vs := List.append_nil vs
theorem call_pe (g : Gd M T G CL C n X s) {f : Nat} {F : FnS} {es : List E} {xs : List Expr} {x : Str} {p pos : Pos} (hF : T.fns[f]? = some F) (hm : F.meth = false) (hx : F.nm = x) (hg : gl s x = true) (hs : xs.all notStar = true) (hr : refsOk es F.refs = true) (h : PEs X xs (es.map (rdA M G CL C))) :
    PE X (.Call (.Name x p) xs [] pos) (tM M (ev G CL C (.call f es) false)) := by
  subst hx
  obtain ⟨fa, fd, ok, hb, kp, hmg, _⟩ := g.fns f F hF
  obtain ⟨g1, g2, g3⟩ := g.gl hg
  have run : ∀ σ H Q, tM M (ev G CL C (.call f es) false) σ H Q → nest (es.map (rdA M G CL C)) σ H fun vs H1 => spF M C f F.refs (vs ++ []) H1 Q E0 := by
    rintro σ H Q ⟨Z, ρ, φ, o, ρ', e, hm, q⟩
    unfold ev at hm
    cases q1 : evA G CL C es ρ with
    | none => rw [q1] at hm; cases hm
    | some w1 =>
    obtain ⟨ds, ρ1⟩ := w1
    rw [q1] at hm
    simp only at hm
    cases q2 : takeA es ds ρ1 with
    | none => rw [q2] at hm; cases hm
    | some w2 =>
    obtain ⟨os, ρ2⟩ := w2
    rw [q2] at hm
    simp only at hm
    cases q3 : C f os with
    | none => rw [q3] at hm; cases hm
    | some w3 =>
    obtain ⟨r, ps⟩ := w3
    rw [q3] at hm
    simp only [post, Option.some.injEq, Prod.mk.injEq] at hm
    obtain ⟨rfl, rfl⟩ := hm
    have := call_ok (E := E0) e q1 q2 q3 hr (g.psl f F os r ps hF q3) q
    simpa only [List.append_nil] using this
  cases xs with
  | nil =>
    have he : es = [] := by
      cases es with
      | nil => rfl
      | cons _ _ => exact h.elim
    subst he
    exact PE.weak (pe_call0 ok g.room g1 (hmg hm) kp hb .nil pass0 g2) run
  | cons x xs =>
    have hs' := hs
    rw [List.all_cons, Bool.and_eq_true] at hs'
    exact PE.weak (pe_call ok g.room g1 (hmg hm) kp hb .nil pass0 (pa_of h hs) g2 (starEach_of hs'.1) (stars_none hs'.2)) run
theorem meth_pe (g : Gd M T G CL C n X s) {f : Nat} {F : FnS} {o : E} {es : List E} {y : Expr} {xs : List Expr} {apos pos : Pos} {r : List Bool} (hF : T.fns[f]? = some F) (hm : F.meth = true) (hb : okBase y = true) (hl : (apos.endLine == pos.line) = true) (hn : xs.length < 29) (hs : xs.all notStar = true)
    (hrf : F.refs = false :: r) (hr : refsOk es r = true) (ho : PE X y (tM M (ev G CL C o false))) (h : PEs X xs (es.map (rdA M G CL C))) :
    PE X (.Call (.Attribute y F.nm apos) xs [] pos) (tM M (ev G CL C (.meth f o es) false)) := by
  obtain ⟨fa, fd, ok, hbd, kp, _, hme⟩ := g.fns f F hF
  obtain ⟨x, hcx⟩ := g.fcl f F hF hm
  obtain ⟨cl, _⟩ := g.cls F.cls x hcx
  have run : ∀ σ H Q, tM M (ev G CL C (.meth f o es) false) σ H Q → tMeth (M.cl F.cls) F.nm (spF M C f F.refs) [] E0 (tM M (ev G CL C o false)) (nest (es.map (rdA M G CL C))) σ H Q := by
    rintro σ H Q ⟨Z, ρ, φ, r0, ρ', e, hmm, q⟩
    unfold ev at hmm
    cases q0 : ev G CL C o false ρ with
    | none => rw [q0] at hmm; cases hmm
    | some w0 =>
    obtain ⟨o0, ρ0⟩ := w0
    rw [q0] at hmm
    match o0, q0, hmm with
    | .val (.ins c fs), q0, hmm =>
      simp only at hmm
      cases q1 : evA G CL C es ρ0 with
      | none => rw [q1] at hmm; cases hmm
      | some w1 =>
      obtain ⟨ds, ρ1⟩ := w1
      rw [q1] at hmm
      simp only at hmm
      cases q2 : takeA es ds ρ1 with
      | none => rw [q2] at hmm; cases hmm
      | some w2 =>
      obtain ⟨os, ρ2⟩ := w2
      rw [q2] at hmm
      simp only at hmm
      cases q3 : C f (.val (.ins c fs) :: os) with
      | none => rw [q3] at hmm; cases hmm
      | some w3 =>
      obtain ⟨r1, ps⟩ := w3
      rw [q3] at hmm
      simp only [post, Option.some.injEq, Prod.mk.injEq] at hmm
      obtain ⟨rfl, rfl⟩ := hmm
      have hc := g.clm f F c fs os _ _ hF hm q3
      subst hc
      have hpl := g.psl f F _ _ _ hF q3
      refine rd_then e q0 fun v Z1 H1 φ1 st1 e1 rp => ?_
      have rp' := rp
      obtain ⟨a, dx, vs0, rfl, i1, i2, i3⟩ := rp
      refine ⟨a, dx, vs0, rfl, e1.sub _ _ i1, RpF.no g (g.mnm f F hF hm) i3, ?_⟩
      -- the receiver ahead of the arguments
      have := callH_ok (E := E0) e1 rp' q1 q2 q3 hr (by rw [hpl, hrf]; rfl) (q.then st1)
      rw [hrf]
      simpa only [List.append_nil] using this
  cases xs with
  | nil =>
    have he : es = [] := by
      cases es with
      | nil => rfl
      | cons _ _ => exact h.elim
    subst he
    exact PE.weak (pe_meth0 ho cl.cls (hme hm) ok g.room hbd .nil pass0 (meth_eq hb hs hn hl)) run
  | cons x xs =>
    have hs' := hs
    rw [List.all_cons, Bool.and_eq_true] at hs'
    exact PE.weak (pe_meth ho cl.cls (hme hm) ok g.room hbd .nil pass0 (pa_of h hs) (starEach_of hs'.1) (stars_none hs'.2) (meth_eq hb hs hn hl)) run
theorem newF : ∀ {ns : List Nat} {ds : List D} {vs : List V} {Z : Hp}, ns.length = ds.length → RpA M Z ds vs → RpF M Z (ns.zip ds) ((ns.map M.fn).zip vs)
  | [], [], _, _, _, h => by cases h; rfl
  | [], _ :: _, _, _, h, _ => by cases h
  | _ :: _, [], _, _, h, _ => by cases h
  | k :: ns, d :: ds, _, _, hl, h => by
    obtain ⟨v, vs, rfl, h1, h2⟩ := h
    exact ⟨v, _, rfl, h1, newF (by simpa using hl) h2⟩
theorem new_pe (g : Gd M T G CL C n X s) {c : Nat} {es : List E} {y : Expr} {xs : List Expr} {x : Str} {p pos : Pos} (hc : T.cnm[c]? = some x) (hg : gl s x = true) (hs : (y :: xs).all notStar = true) (h : PEs X (y :: xs) (es.map (rdV M G CL C))) :
    PE X (.Call (.Name x p) (y :: xs) [] pos) (tM M (ev G CL C (.new c es) false)) := by
  cases hcl : CL[c]? with
  | none =>
    refine pe_never fun ρ q hq => ?_
    unfold ev at hq
    split at hq
    · cases hq
    · rw [hcl] at hq; cases hq
  | some ns =>
  obtain ⟨fi, fd, ps, j, hn, mk, hb, ok⟩ := g.new c x ns hc hcl
  obtain ⟨cl, hmg⟩ := g.cls c x hc
  obtain ⟨g1, g2, g3⟩ := g.gl hg
  have hs' := hs
  rw [List.all_cons, Bool.and_eq_true] at hs'
  refine PE.weak (pe_make mk ok (hn ▸ g.room) g1 hmg hb .nil pass0 (pa_of h hs) g2 (starEach_of hs'.1) (stars_none hs'.2)) fun σ H Q ⟨Z, ρ, φ, o, ρ', e, hm, q⟩ => ?_
  unfold ev at hm
  cases q1 : evV G CL C es ρ with
  | none => rw [q1] at hm; cases hm
  | some w =>
  obtain ⟨ds, ρ1⟩ := w
  rw [q1] at hm
  simp only [hcl] at hm
  obtain ⟨⟨_, hlen⟩, hm⟩ := ite_some hm
  cases hm
  refine vals_ok es e q1 fun vs Z1 H1 φ1 st e1 ra => fun a dx ha hdx hne => ?_
  refine ⟨a, dx, vs, by simp, by rw [ra.length, hlen], upd_same, rfl, ?_⟩
  have za := e1.sub.none ha
  have s1 : Sub Z1 (upd Z1 a (.ins (M.cl c) dx ((ns.map M.fn).zip vs))) := fun b o q => by rw [upd_ne (ne_of_none q za)]; exact q
  refine (q.cont st e1) (.ref a) (upd Z1 a (.ins (M.cl c) dx ((ns.map M.fn).zip vs))) _ [] ⟨s1, fun b o q => ?_, fun b o q => ?_, fun b q => ?_, fun b hb => by cases hb⟩ ⟨rfl, a, dx, _, rfl, upd_same, by rw [g.nc]; exact (List.getElem?_eq_some_iff.mp hc).1, newF hlen (RpA.mono s1 _ _ ra)⟩
  · by_cases e : b = a
    · subst e; rw [upd_same] at q ⊢; exact q
    · rw [upd_ne e] at q ⊢
      have q2 := e1.sub b o q
      rw [upd_ne e, upd_ne (ne_of_none q2 hdx)]
      exact q2
  · rw [upd_ne (ne_of_none q ha), upd_ne (ne_of_none q ha), upd_ne (ne_of_none q hdx)]
    exact q
  · by_cases e : b = a
    · subst e; exact .inr ha
    · rw [upd_ne e] at q; exact .inl q
/-- a thing in a slot is written -/
theorem slot_write {Z H : Hp} {σ : L2.St} {ρ : Env} {φ : Nat → List Addr} {i : Nat} {o o' : O} {l : Addr} {ho : HO} (e : EOk M Z H σ ρ φ) (hi : getS ρ i = some o) (hl : φ i = [l]) (r : ∀ H' : Hp, H' l = some ho → RpO M Z H' o' (.ref l) [l]) (hv : σ[i]? = some (some (.ref l))) :
    EOk M Z (upd H l ho) σ (setS ρ i (some o')) φ ∧ Stp Z H (Own ρ φ) Z (upd H l ho) (Own (setS ρ i (some o')) φ) := by
  have own : Own ρ φ l := ⟨i, o, hi, by rw [hl]; simp⟩
  have zl := e.out l own
  have ow : ∀ a, Own (setS ρ i (some o')) φ a → Own ρ φ a := fun a ⟨j, u, hj, hm⟩ => by
    rcases getS_set_some hj with ⟨rfl, _⟩ | ⟨ne, hj⟩
    · exact ⟨_, o, hi, hm⟩
    · exact ⟨j, u, hj, hm⟩
  refine ⟨⟨fun b u q => by rw [upd_ne (ne_of_none q zl)]; exact e.sub b u q, by rw [setS_length]; exact e.len, fun j u hj => ?_, fun a ha => e.out a (ow a ha), fun j k u w a hj hk mj mk => ?_⟩, ⟨.refl _, fun a u q hn => by rw [upd_ne (show a ≠ l from fun z => hn (by rw [z]; exact own))]; exact q, fun a q z => ?_, fun _ q => .inl q, fun a ha => .inl (ow a ha)⟩⟩
  · rcases getS_set_some hj with ⟨rfl, z⟩ | ⟨ne, hj⟩
    · cases z
      exact ⟨_, hv, by rw [hl]; exact r _ upd_same⟩
    · obtain ⟨v, h1, h2⟩ := e.hold j u hj
      refine ⟨v, h1, h2.keep (.refl _) fun b hb w q => ?_⟩
      have : b ≠ l := fun z => ne (e.dis j i u o b hj hi hb (by rw [hl, z]; simp))
      rw [upd_ne this]
      exact q
  · have back : ∀ j u, getS (setS ρ i (some o')) j = some u → ∃ u', getS ρ j = some u' := fun j u hj => by
      rcases getS_set_some hj with ⟨rfl, _⟩ | ⟨_, hj⟩
      · exact ⟨_, hi⟩
      · exact ⟨_, hj⟩
    obtain ⟨u', hj'⟩ := back j u hj
    obtain ⟨w', hk'⟩ := back k w hk
    exact e.dis j k u' w' a hj' hk' mj mk
  · by_cases e : a = l
    · subst e; rw [upd_same] at z; cases z
    · rw [upd_ne e] at z; exact q z
theorem pop_pe (g : Gd M T G CL C n X s) {i : Nat} {x : Str} {p apos pos : Pos} (hv : vis s i x = true) (hl : (apos.endLine == pos.line) = true) : PE X (.Call (.Attribute (.Name x p) "pop" apos) [] [] pos) (tM M (ev G CL C (.pop i) false)) := by
  refine PE.weak (pe_bm0 PySem.F.plainAttrs_list PySem.F.slot_list_pop PySem.F.type_list_pop mt_pop (g.vis hv) rfl hl) fun σ H Q ⟨Z, ρ, φ, o, ρ', e, hm, q⟩ => ?_
  unfold ev at hm
  split at hm
  · rename_i xs hi
    split at hm
    · rename_i d hd
      simp only [post, Option.some.injEq, Prod.mk.injEq] at hm
      obtain ⟨rfl, rfl⟩ := hm
      obtain ⟨v, h1, h2⟩ := e.hold i _ hi
      obtain ⟨a, vs, rfl, h3, h4, h5⟩ := h2
      obtain ⟨y, h6, h7⟩ := h5.get (i := xs.length - 1) (by rw [← List.getLast?_eq_getElem?]; exact hd)
      obtain ⟨e1, st⟩ := slot_write (o' := .lst xs.dropLast) (ho := .lst vs.dropLast) e hi h3 (fun H' hH => ⟨a, _, rfl, rfl, hH, h5.dropLast⟩) h1
      refine ⟨.ref a, h1, Or.inl ⟨rfl, vs, .inl (.inl h4)⟩, a, vs, y, rfl, rfl, h4, by rw [h5.length]; exact h6, ?_⟩
      exact (q.cont st e1).val e1.sub h7
    · cases hm
  · cases hm
theorem popAt_pe (g : Gd M T G CL C n X s) {i : Nat} {a : E} {x : Str} {y : Expr} {p apos pos : Pos} (hv : vis s i x = true) (hl : (apos.endLine == pos.line) = true) (hy : notStar y = true) (ha : PE X y (tM M (ev G CL C a false))) :
    PE X (.Call (.Attribute (.Name x p) "pop" apos) [y] [] pos) (tM M (ev G CL C (.popAt i a) false)) := by
  have hst := starEach_of (xs := []) (env := X.env) hy
  refine PE.weak (pe_bm PySem.F.plainAttrs_list PySem.F.slot_list_pop PySem.F.type_list_pop mt_popAt (g.vis hv) (pa_cons ha pa_nil hst) rfl (by rw [hst]; rfl) hl hst rfl) fun σ H Q ⟨Z, ρ, φ, o, ρ', e, hm, q⟩ => ?_
  unfold ev at hm
  split at hm
  · rename_i xs0 hi0
    cases q1 : ev G CL C a false ρ with
    | none => rw [q1] at hm; cases hm
    | some w =>
    obtain ⟨o1, ρ1⟩ := w
    rw [q1] at hm
    simp only at hm
    split at hm
    · rename_i k xs hk hi
      split at hm
      · rename_i j hj
        split at hm
        · rename_i d hd
          obtain ⟨hb, hm⟩ := ite_some hm
          simp only [post, Option.some.injEq, Prod.mk.injEq] at hm
          obtain ⟨rfl, rfl⟩ := hm
          obtain ⟨v, h1, h2⟩ := e.hold i _ hi0
          obtain ⟨b, vs0, rfl, h3, h4, h5⟩ := h2
          refine ⟨.ref b, h1, Or.inl ⟨rfl, vs0, .inl (.inl h4)⟩, ?_⟩
          refine rd_then e q1 fun w Z1 H1 φ1 st1 e1 rp => ?_
          rw [hk] at rp
          obtain ⟨v', g1, g2⟩ := e1.hold i _ hi
          rw [h1] at g1
          cases g1
          obtain ⟨b', vs, eb, f3, f4, f5⟩ := g2
          cases eb
          obtain ⟨y, h6, h7⟩ := f5.get hd
          obtain ⟨e2, st2⟩ := slot_write (o' := .lst (xs.eraseIdx j)) (ho := .lst (vs.eraseIdx j)) e1 hi f3 (fun H' hH => ⟨b, _, rfl, rfl, hH, f5.eraseIdx j⟩) h1
          rw [← f5.length] at hj
          have rp : w = V.int k := rp
          subst rp
          refine ⟨b, vs, k, j, y, rfl, rfl, f4, hb.1, hb.2, (ixN_seq hj).1, h6, ?_⟩
          exact (q.cont (st1.trans st2) e2).val e2.sub h7
        · cases hm
      · cases hm
    · cases hm
  · cases hm
end
end EV

namespace EV
open PyProof.Rows PySem L2 PySem.Spec
section
variable {M : Mt} {T : Stat} {G : List D} {CL : List (List Nat)} {C : CallF} {n : Nat}
theorem setS_setS : ∀ (ρ : Env) (i : Nat) (o u : Option O), setS (setS ρ i o) i u = setS ρ i u
  | [], _, _, _ => rfl
  | _ :: _, 0, _, _ => rfl
  | x :: r, i + 1, o, u => by simp [setS, setS_setS r i o u]
theorem dct_pe {X : Cx} {t : Bool} {pos : Pos} : PE X (.Dict [] [] pos) (tM M (ev G CL C (.dct0 t) false)) := by
  cases t with
  | true => exact PE.weak pe_dnewT fun σ H Q ⟨Z, ρ, φ, o, ρ', e, hm, q⟩ p hp => by cases hm; exact new_dT e.sub (q.cont .refl e) rfl hp
  | false => exact PE.weak pe_dnewK fun σ H Q ⟨Z, ρ, φ, o, ρ', e, hm, q⟩ p hp => by cases hm; exact new_dK e.sub (q.cont .refl e) rfl hp
theorem lit_pe {X : Cx} {d : D} {c : Const} {j : Nat} {pos : Pos} (h : mLit d c = true) : PE X (.Constant c j pos) (tM M (ev G CL C (.lit d) false)) := by
  unfold mLit at h
  split at h
  · exact pe_val (d := .non) pe_non (fun _ => rfl) fun ρ p hp => by cases hp; rfl
  · simp only [beq_iff_eq] at h; subst h; exact pe_val (d := .bl _) pe_bl (fun _ => rfl) fun ρ p hp => by cases hp; rfl
  · simp only [decide_eq_true_eq] at h; subst h; exact pe_val (d := .int _) pe_int (fun _ => rfl) fun ρ p hp => by cases hp; rfl
  · simp only [decide_eq_true_eq] at h; subst h; exact pe_val (d := .str _) pe_str (fun _ => rfl) fun ρ p hp => by cases hp; rfl
  · cases h
theorem var_pe {X : Cx} {s : Sc} (g : Gd M T G CL C n X s) {i : Nat} {x : Str} {pos : Pos} (h : vis s i x = true) : PE X (.Name x pos) (tM M (ev G CL C (.var i) false)) := by
  refine PE.weak (g.vis h) fun σ H Q ⟨Z, ρ, φ, o, ρ', e, hm, q⟩ => ?_
  unfold ev at hm
  split at hm
  · rename_i d hd
    cases hm
    obtain ⟨v, h1, h2⟩ := e.hold i _ hd
    exact ⟨v, h1, q.here e h2.2⟩
  · cases hm
theorem bw_pe {X : Cx} {s : Sc} (g : Gd M T G CL C n X s) {i : Nat} {x : Str} {pos : Pos} (h : vis s i x = true) : PE X (.Name x pos) (tM M (ev G CL C (.bw i) false)) := by
  refine PE.weak (g.vis h) fun σ H Q ⟨Z, ρ, φ, o, ρ', e, hm, q⟩ => ?_
  unfold ev at hm
  simp only at hm
  split at hm
  · rename_i d hd
    cases hm
    obtain ⟨v, h1, h2⟩ := e.hold i _ hd
    exact ⟨v, h1, q.here e h2.2⟩
  · cases hm
theorem bw_pt {X : Cx} {s : Sc} (g : Gd M T G CL C n X s) {i : Nat} {x : Str} {pos : Pos} (h : vis s i x = true) : PT X (.Name x pos) (tT M (ev G CL C (.bw i) true)) := by
  refine PT.weak (pt_truth (g.vis h) (isTrue_ok rfl)) fun σ H Q ⟨Z, ρ, φ, b, ρ', e, hm, q⟩ => ?_
  unfold ev at hm
  simp only at hm
  split at hm
  · rename_i o ho
    obtain ⟨b', t, hb, rfl⟩ := post_true hm
    cases hb
    obtain ⟨v, h1, h2⟩ := e.hold i o ho
    refine ⟨v, h1, b, ?_, q Z H φ .refl e⟩
    rw [g.k]
    exact truth_ok h2 e.sub t
  · cases hm
theorem mv_pe {X : Cx} {s : Sc} (g : Gd M T G CL C n X s) {i : Nat} {x : Str} {pos : Pos} (h : vis s i x = true) : PE X (.Name x pos) (tM M (ev G CL C (.mv i) false)) := by
  refine PE.weak (g.vis h) fun σ H Q ⟨Z, ρ, φ, o, ρ', e, hm, q⟩ => ?_
  unfold ev at hm
  split at hm
  · rename_i o1 ho
    cases hm
    obtain ⟨v, h1, h2⟩ := e.hold i _ ho
    refine ⟨v, h1, q v Z H φ (φ i) (Stp.refl.less fun a z => z.elim (fun z => z.less set_less) fun z => ⟨i, _, ho, z⟩) (e.less (setS_length _ _ _) set_less) h2 fun a ha => ⟨e.out a ⟨i, _, ho, ha⟩, fun ⟨j, u, hj, hm⟩ => ?_⟩⟩
    rcases getS_set_some hj with ⟨_, z⟩ | ⟨ne, hj⟩
    · cases z
    · exact ne (e.dis j i u _ a hj ho hm ha)
  · cases hm
theorem sh_pe {X : Cx} {s : Sc} (g : Gd M T G CL C n X s) {i : Nat} {x : Str} {pos : Pos} (h : vis s i x = true) : PE X (.Name x pos) (tM M (ev G CL C (.sh i) false)) := by
  refine PE.weak (g.vis h) fun σ H Q ⟨Z, ρ, φ, o, ρ', e, hm, q⟩ => ?_
  unfold ev at hm
  split at hm
  · rename_i o1 ho
    cases hm
    obtain ⟨v, h1, h2⟩ := e.hold i _ ho
    refine ⟨v, h1, ?_⟩
    -- taken, frozen, laid back
    have e0 : EOk M Z H σ (setS ρ i none) φ := e.less (setS_length _ _ _) set_less
    have no : ∀ a ∈ φ i, Z a = none ∧ ¬ Own (setS ρ i none) φ a := fun a ha => ⟨e.out a ⟨i, _, ho, ha⟩, fun ⟨j, u, hj, hm⟩ => by
      rcases getS_set_some hj with ⟨_, z⟩ | ⟨ne, hj⟩
      · cases z
      · exact ne (e.dis j i u _ a hj ho hm ha)⟩
    have st0 : Stp Z H (Own ρ φ) Z H (fun a => Own (setS ρ i none) φ a ∨ a ∈ φ i) := Stp.refl.less fun a z => z.elim (fun z => z.less set_less) fun z => ⟨i, _, ho, z⟩
    obtain ⟨Z2, st2, e2, rp⟩ := frozen st0 e0 h2 no
    have hs : σ.set i (some v) = σ := by
      apply List.ext_getElem?
      intro j
      by_cases ej : i = j
      · subst ej
        rw [List.getElem?_set_self (List.getElem?_eq_some_iff.mp h1).1, h1]
      · rw [List.getElem?_set_ne ej]
    have e3 := e2.setV (i := i) rp
    rw [hs] at e3
    have hset : setS (setS ρ i none) i (some (.val o1.frz)) = setS ρ i (some (.val o1.frz)) := setS_setS ρ i _ _
    rw [hset] at e3
    refine q v Z2 H _ [] ⟨st2.zz, st2.ch, st2.al, st2.zn, fun a z => ?_⟩ e3 ⟨rfl, rp⟩ fun a ha => absurd ha (by simp)
    rcases z with z | z
    · rw [← hset] at z
      rcases z.set with z | z
      · cases z
      · exact st2.ow a z
    · cases z
  · cases hm
theorem glob_pe {X : Cx} {s : Sc} (g : Gd M T G CL C n X s) {k : Nat} {x : Str} {pos : Pos} (h : gl s x = true) (hk : T.glb[k]? = some x) : PE X (.Name x pos) (tM M (ev G CL C (.glob k) false)) := by
  cases hg : G[k]? with
  | none => exact pe_never fun ρ p hp => by unfold ev at hp; rw [hg] at hp; cases hp
  | some d =>
    obtain ⟨u, v, h1, h2, h3⟩ := g.glb k x d hk hg
    obtain ⟨g1, g2, _⟩ := g.gl h
    exact pe_val (pe_glob g1 h1 h2 g2) (fun Z => Rp.mono (fun a o h => by cases h) _ _ h3) fun ρ p hp => by unfold ev at hp; rw [hg] at hp; cases hp; rfl
theorem frz_pe {X : Cx} {a : E} {e : Expr} (h : PE X e (tM M (ev G CL C a false))) : PE X e (tM M (ev G CL C (.frz a) false)) := by
  refine PE.weak h fun σ H Q ⟨Z, ρ, φ, o, ρ', e, hm, q⟩ => ?_
  unfold ev at hm
  cases q1 : ev G CL C a false ρ with
  | none => rw [q1] at hm; cases hm
  | some w =>
    obtain ⟨o1, ρ1⟩ := w
    rw [q1] at hm
    cases hm
    exact rd_then e q1 fun v Z1 H1 φ1 st e1 rp => q v Z1 H1 φ1 [] (st.less fun a z => z.elim id fun z => by cases z) e1 ⟨rfl, rp⟩ fun a ha => absurd ha (by simp)
theorem cmp2_pe {X : Cx} {s : Sc} (g : Gd M T G CL C n X s) {p q : Pr} {a b c : E} {x y z : Expr} {o1 o2 : CmpOp} {pos : Pos} (h1 : cmpOf p = some o1) (h2 : cmpOf q = some o2) (h3 : behindInMarks o2 z = false) (ha : PE X x (tM M (ev G CL C a false))) (hb : PE X y (tM M (ev G CL C b false))) (hc : PE X z (tM M (ev G CL C c false))) :
    PE X (.Compare x [o1, o2] [y, z] pos) (tM M (ev G CL C (.cmp2 p q a b c) false)) ∧ PT X (.Compare x [o1, o2] [y, z] pos) (tT M (ev G CL C (.cmp2 p q a b c) true)) := by
  obtain ⟨r, ho, sp⟩ := cmp_ok g.k g.hu p _ h1
  obtain ⟨r', ho', sq⟩ := cmp_ok g.k g.hu q _ h2
  have bl : ∀ m ρ o ρ', ev G CL C (.cmp2 p q a b c) m ρ = some (o, ρ') → ∃ b0, o = .val (.bl b0) := fun m ρ o ρ' h => by
    unfold ev at h
    repeat' split at h
    all_goals first | (cases h; done) | (cases h; exact ⟨_, rfl⟩)
  refine ⟨PE.weak (pe_chain ho ho' ha hb hc h3) fun σ H Q ⟨Z, ρ, φ, o, ρ', e, hm, q⟩ => ?_, PT.weak (pt_chain ho ho' ha hb hc h3) fun σ H Q ⟨Z, ρ, φ, b0, ρ', e, hm, q⟩ => ?_⟩
  · obtain ⟨b0, rfl⟩ := bl _ _ _ _ hm
    exact chain_ok g h1 h2 sp sq e hm fun Z' H' φ' st e' => (q.cont st e').val e'.sub rfl
  · exact chain_ok g h1 h2 sp sq e hm fun Z' H' φ' st e' => ⟨b0, rfl, q Z' H' φ' st e'⟩
/-- a BoolOp's rest as one -/
theorem pw_of {X : Cx} {op : BoolOp} {y : Expr} {r : List Expr} {pos : Pos} {t : TT} (h : PT X (match r with | [] => y | _ => .BoolOp op (y :: r) pos) t) : PW X (.BoolOp op (y :: r) pos) t := by
  cases r with
  | nil => cases op with
    | And => exact pw_and1 h
    | Or => exact pw_or1 h
  | cons _ _ => exact ⟨fun whole pins s σ H Q I q => h.run pins s σ H Q I q⟩
mutual
theorem sE : ∀ (ir : E) (s : Sc) (X : Cx) (e : Expr), Gd M T G CL C n X s → mE T ir s e = true → PE X e (tM M (ev G CL C ir false)) ∧ PT X e (tT M (ev G CL C ir true))
  | .fail, s, X, e, g, h => ⟨pe_never (fun ρ p hp => by unfold ev at hp; cases hp), pt_never (fun ρ p hp => by unfold ev at hp; cases hp)⟩
  | .lit d, s, X, e, g, h => by
    unfold mE at h
    split at h
    · exact both g.k (lit_pe h) rfl (plain_of fun ρ => rfl)
    · cases h
  | .var i, s, X, e, g, h => by
    unfold mE at h
    split at h
    · refine both g.k (var_pe g h) rfl (plain_of fun ρ => ?_)
      unfold ev
      repeat' split
      all_goals first | rfl | (rename_i h1 h2; rw [h1] at h2; cases h2; done) | simp_all [post]
    · cases h
  | .mv i, s, X, e, g, h => by
    unfold mE at h
    split at h
    · rw [Bool.and_eq_true] at h
      refine both g.k (mv_pe g h.1) rfl (plain_of fun ρ => ?_)
      unfold ev
      split <;> rfl
    · cases h
  | .sh i, s, X, e, g, h => by
    unfold mE at h
    split at h
    · refine both g.k (sh_pe g h) rfl (plain_of fun ρ => ?_)
      unfold ev
      split <;> rfl
    · cases h
  | .bw i, s, X, e, g, h => by
    unfold mE at h
    split at h
    · exact ⟨bw_pe g h, bw_pt g h⟩
    · cases h
  | .rf i, s, X, e, g, h => by cases h
  | .fr a, s, X, e, g, h => by
    unfold mE at h
    have ha := sE a s X _ g h
    refine ⟨?_, pt_never fun ρ p hp => by unfold ev at hp; cases hp⟩
    have e1 : ev G CL C (.fr a) false = ev G CL C a false := by funext ρ; conv => lhs; unfold ev
    rw [e1]; exact ha.1
  | .glob k, s, X, e, g, h => by
    unfold mE at h
    split at h
    · rw [Bool.and_eq_true, decide_eq_true_eq] at h
      refine both g.k (glob_pe g h.1 h.2) rfl (plain_of fun ρ => ?_)
      unfold ev
      split <;> rfl
    · cases h
  | .op p es, s, X, e, g, h => by
    unfold mE at h
    split at h
    · rename_i xs hs
      have hx := sO es s X xs g h
      exact ⟨op_all g hs hx, op_pt g hs hx⟩
    · cases h
  | .mop p o es, s, X, e, g, h => by
    unfold mE at h
    split at h
    · rename_i x xs hs
      rw [Bool.and_eq_true] at h
      have ht : okTruth e = true := by
        unfold mopShape at hs
        split at hs
        · rfl
        · rfl
        · rfl
        · cases hs
      have ho : PE X x (rdO M G CL C o) := by
        have := (sE o s X x g h.1).1
        cases o <;> first | exact this | skip
        have h1 := h.1
        unfold mE at h1
        split at h1
        · exact g.vis h1
        · cases h1
      refine both g.k (mop_ok g hs ho (sO es s X xs g h.2)) ht (plain_of fun ρ => ?_)
      unfold ev
      cases o <;> (simp only; repeat' split) <;> first | rfl | (simp_all [post]; done)
    · cases h
  | .tup es, s, X, e, g, h => by
    unfold mE at h
    split at h
    · rw [Bool.and_eq_true] at h
      refine both g.k (tup_ok (sV es s X _ g h.2) h.1) rfl (plain_of fun ρ => ?_)
      unfold ev
      repeat' split
      all_goals first | rfl | simp_all [post]
    · cases h
  | .lst es, s, X, e, g, h => by
    unfold mE at h
    split at h
    · rw [Bool.and_eq_true] at h
      refine both g.k (lst_ok (sV es s X _ g h.2) h.1) rfl (plain_of fun ρ => ?_)
      unfold ev
      repeat' split
      all_goals first | rfl | simp_all [post]
    · cases h
  | .dctOf t es, s, X, e, g, h => by
    unfold mE at h
    split at h
    · simp only [Bool.and_eq_true, decide_eq_true_eq] at h
      obtain ⟨⟨⟨h1, h2⟩, h3⟩, h4⟩ := h
      subst h1
      refine both g.k (dctOf_pe g h2 h3 (sO es s X _ g h4)) rfl (plain_of fun ρ => ?_)
      unfold ev
      repeat' split
      all_goals first | rfl | simp_all [post]
    · cases h
  | .dct0 t, s, X, e, g, h => by
    unfold mE at h
    split at h
    · exact both g.k dct_pe rfl (plain_of fun ρ => rfl)
    · cases h
  | .and a b, s, X, e, g, h => by
    unfold mE at h
    split at h
    · rw [Bool.and_eq_true] at h
      have ha := sE a s X _ g h.1
      have hb := sE b s X _ g h.2
      exact ⟨and_ok ha.1 hb.1, (tand_ok ha.2 (pw_of hb.2)).pt⟩
    · cases h
  | .or a b, s, X, e, g, h => by
    unfold mE at h
    split at h
    · rw [Bool.and_eq_true] at h
      have ha := sE a s X _ g h.1
      have hb := sE b s X _ g h.2
      exact ⟨or_ok ha.1 hb.1, (tor_ok ha.2 (pw_of hb.2)).pt⟩
    · cases h
  | .not a, s, X, e, g, h => by
    unfold mE at h
    split at h
    · have ha := sE a s X _ g h
      exact ⟨not_ok ha.1, tnot_ok ha.2⟩
    · cases h
  | .ite c a b, s, X, e, g, h => by
    unfold mE at h
    split at h
    · rw [Bool.and_eq_true, Bool.and_eq_true] at h
      have hc := sE c s X _ g h.1.1
      have ha := sE a s X _ g h.1.2
      have hb := sE b s X _ g h.2
      exact ⟨ite_ok hc.2 ha.1 hb.1, pt_never fun ρ p hp => by unfold ev at hp; cases hp⟩
    · cases h
  | .cmp2 p q a b c, s, X, e, g, h => by
    unfold mE at h
    split at h
    · simp only [Bool.and_eq_true, decide_eq_true_eq, Bool.not_eq_true'] at h
      obtain ⟨⟨⟨⟨⟨h1, h2⟩, h3⟩, h4⟩, h5⟩, h6⟩ := h
      exact cmp2_pe g h1 h2 h3 (sE a s X _ g h4).1 (sE b s X _ g h5).1 (sE c s X _ g h6).1
    · cases h
  | .call f es, s, X, e, g, h => by
    unfold mE at h
    split at h
    · rename_i x p xs pos F hF
      simp only [Bool.and_eq_true, decide_eq_true_eq, Bool.not_eq_true'] at h
      obtain ⟨⟨⟨⟨⟨h1, h2⟩, h3⟩, h4⟩, h5⟩, h6⟩ := h
      refine both g.k (call_pe g hF h1 h2 h3 h4 h5 (sA es s X xs g h6)) rfl (plain_of fun ρ => ?_)
      unfold ev
      repeat' split
      all_goals first | rfl | simp_all [post]
    · cases h
  | .meth f o es, s, X, e, g, h => by
    unfold mE at h
    split at h
    · rename_i y m apos xs pos F hF
      simp only [Bool.and_eq_true, decide_eq_true_eq] at h
      obtain ⟨⟨⟨⟨⟨⟨⟨⟨h1, h2⟩, h3⟩, h4⟩, h5⟩, h6⟩, h7⟩, h8⟩, h9⟩ := h
      subst h2
      split at h7
      · rename_i r hr
        refine both g.k (meth_pe g hF h1 h3 h4 h5 h6 hr h7 (sE o s X y g h8).1 (sA es s X xs g h9)) rfl (plain_of fun ρ => ?_)
        unfold ev
        repeat' split
        all_goals first | rfl | simp_all [post]
      · cases h7
    · cases h
  | .new c es, s, X, e, g, h => by
    unfold mE at h
    split at h
    · rename_i x p y xs pos
      simp only [Bool.and_eq_true, decide_eq_true_eq] at h
      obtain ⟨⟨⟨h1, h2⟩, h3⟩, h4⟩ := h
      refine ⟨new_pe g h1 h2 (by simpa using h3) (sV es s X (y :: xs) g h4), pt_never fun ρ p hp => ?_⟩
      unfold ev at hp
      repeat' split at hp
      all_goals first | (cases hp; done) | (rename_i hh; exact absurd hh.1 (by decide))
    · cases h
  | .pop i, s, X, e, g, h => by
    unfold mE at h
    split at h
    · simp only [Bool.and_eq_true, decide_eq_true_eq] at h
      obtain ⟨⟨h1, h2⟩, h3⟩ := h
      subst h1
      refine both g.k (pop_pe g h2 h3) rfl (plain_of fun ρ => ?_)
      unfold ev
      repeat' split
      all_goals first | rfl | simp_all [post]
    · cases h
  | .popAt i a, s, X, e, g, h => by
    unfold mE at h
    split at h
    · simp only [Bool.and_eq_true, decide_eq_true_eq] at h
      obtain ⟨⟨⟨⟨h1, h2⟩, h3⟩, h4⟩, h5⟩ := h
      subst h1
      refine both g.k (popAt_pe g h2 h3 h4 (sE a s X _ g h5).1) rfl (plain_of fun ρ => ?_)
      unfold ev
      repeat' split
      all_goals first | rfl | simp_all [post]
    · cases h
  | .comp tg k es cs a, s, X, e, g, h => by
    unfold mE at h
    split at h
    · rename_i elt tgt iter ifs nn scope pos
      simp only [Bool.and_eq_true, decide_eq_true_eq, beq_iff_eq] at h
      obtain ⟨⟨⟨⟨⟨⟨⟨h1, h2⟩, h3⟩, h4⟩, h5⟩, h6⟩, h7⟩, h8⟩ := h
      subst h1
      split at h2
      · rename_i xs hs
        have hi := it_ok g hs (sV es s X xs g h2)
        have hc : ∀ (s0 : Shared) (H : Hp) (Cd : Addr) (cl : List (Str × Addr)) (fp : List Addr), PTs (X.blk s0 H scope (compEnvC scope cl Cd X.env) fp) ifs (fun σ H Q => ∃ Z ρ φ b ρ', EOk M Z H σ ρ φ ∧ evC G CL C cs ρ = some (b, ρ') ∧ ∀ Z' H' φ', Stp Z H (Own ρ φ) Z' H' (Own ρ' φ') → EOk M Z' H' σ ρ' φ' → Q b H') := by
          intro s0 H Cd cl fp
          match cs, h6, h7 with
          | [], _, h7 =>
            have : ifs = [] := by
              unfold mEs at h7
              split at h7 <;> first | rfl | cases h7
            subst this
            refine ⟨fun pins s σ H Q I ⟨Z, ρ, φ, b, ρ', e, hm, q⟩ => pts_nil.run pins s σ H Q I ?_⟩
            cases hm
            exact q Z H φ .refl e
          | [c], _, h7 =>
            match ifs, h7 with
            | [x], h7 =>
              unfold mEs at h7
              rw [Bool.and_eq_true] at h7
              have hp := (sE c (blkSc s scope) _ x (g.blk (s0 := s0) (H := H) (Cd := Cd) (cl := cl) (fp := fp)) h7.1).2
              refine ⟨fun pins s σ H Q I ⟨Z, ρ, φ, b, ρ', e, hm, q⟩ => (pts_one hp).run pins s σ H Q I ⟨Z, ρ, φ, b, ρ', e, ?_, q⟩⟩
              unfold evC at hm
              split at hm
              · rename_i h1
                simp only at hm
                cases hm
                exact h1
              · cases hm
            | [], h7 => cases h7
            | _ :: _ :: _, h7 => simp [mEs] at h7
        obtain ⟨wi, gg, tt, te, vs, w1, rfl, w3, w4, w5, w6, w7, w8⟩ := comp_ok (pos := pos) (PP := PI X tgt iter) g hi h3 h4 h5 hc fun s0 H Cd cl fp => (sE a (blkSc s scope) _ elt g.blk h8).1
        refine both g.k (PE.weak (pe_lc g.calm g.nd w3 w4 w5 w6 w7 w8) w1) rfl (plain_of fun ρ => ?_)
        unfold ev
        repeat' split
        all_goals first | rfl | simp_all [post]
      · cases h2
    · cases h
  | .frz a, s, X, e, g, h => by
    unfold mE at h
    rw [Bool.and_eq_true] at h
    refine both g.k (frz_pe (sE a s X e g h.2).1) h.1 (plain_of fun ρ => ?_)
    unfold ev
    repeat' split
    all_goals first | rfl | simp_all [post]
theorem sV : ∀ (es : List E) (s : Sc) (X : Cx) (xs : List Expr), Gd M T G CL C n X s → mEs T es s xs = true → PEs X xs (es.map (rdV M G CL C))
  | [], s, X, xs, g, h => by
    unfold mEs at h
    split at h
    · exact True.intro
    · cases h
  | e :: es, s, X, xs, g, h => by
    unfold mEs at h
    split at h
    · rw [Bool.and_eq_true] at h
      exact ⟨(sE e s X _ g h.1).1, sV es s X _ g h.2⟩
    · cases h
theorem sO : ∀ (es : List E) (s : Sc) (X : Cx) (xs : List Expr), Gd M T G CL C n X s → mEs T es s xs = true → PEs X xs (es.map (rdO M G CL C))
  | [], s, X, xs, g, h => by
    unfold mEs at h
    split at h
    · exact True.intro
    · cases h
  | e :: es, s, X, xs, g, h => by
    unfold mEs at h
    split at h
    · rename_i x xs
      rw [Bool.and_eq_true] at h
      refine ⟨?_, sO es s X _ g h.2⟩
      have := (sE e s X _ g h.1).1
      cases e <;> first | exact this | skip
      have h1 := h.1
      unfold mE at h1
      split at h1
      · exact g.vis h1
      · cases h1
    · cases h
theorem sA : ∀ (es : List E) (s : Sc) (X : Cx) (xs : List Expr), Gd M T G CL C n X s → mAs T es s xs = true → PEs X xs (es.map (rdA M G CL C))
  | [], s, X, xs, g, h => by
    unfold mAs at h
    split at h
    · exact True.intro
    · cases h
  | e :: es, s, X, xs, g, h => by
    unfold mAs at h
    split at h
    · rename_i x xs
      rw [Bool.and_eq_true] at h
      refine ⟨?_, sA es s X _ g h.2⟩
      by_cases hr : ∃ i, e = .rf i
      · obtain ⟨i, rfl⟩ := hr
        have h1 := h.1
        simp only at h1
        split at h1
        · exact g.vis h1
        · cases h1
      · have h1 : mE T e s x = true := by cases e <;> first | exact h.1 | exact absurd ⟨_, rfl⟩ hr
        have := (sE e s X _ g h1).1
        cases e <;> first | exact this | exact absurd ⟨_, rfl⟩ hr
    · cases h
end
end
end EV

namespace EV
open PyProof.Rows PySem L2 PySem.Spec
section
variable {M : Mt} {T : Stat} {G : List D} {CL : List (List Nat)} {C : CallF} {W n : Nat} {X : Cx} {s : Sc}
/-- what a run that goes on wants -/
def Nx (M : Mt) (fx : List Nat) (Z H : Hp) (ρ : Env) (φ : Nat → List Addr) (σ : L2.St) (K : L2.St → Hp → Prop) (ρ' : Env) : Prop :=
  ∀ σ' Z' H' φ', Stp Z H (Own ρ φ) Z' H' (Own ρ' φ') → EOk M Z' H' σ' ρ' φ' → (∀ i, i ∈ fx → σ'[i]? = σ[i]?) → K σ' H'
def Rt (M : Mt) (fx : List Nat) (Z H : Hp) (ρ : Env) (φ : Nat → List Addr) (σ : L2.St) (Q : VK) (o : O) (ρ' : Env) : Prop :=
  ∀ v σ' Z' H' φ' f, Stp Z H (Own ρ φ) Z' H' (fun a => Own ρ' φ' a ∨ a ∈ f) → EOk M Z' H' σ' ρ' φ' → RpO M Z' H' o v f → (∀ a ∈ f, Z' a = none ∧ ¬ Own ρ' φ' a) → (∀ i, i ∈ fx → σ'[i]? = σ[i]?) → Q v H'
def Dn (M : Mt) (fx : List Nat) (Z H : Hp) (ρ : Env) (φ : Nat → List Addr) (σ : L2.St) (D : Ends) : Flow → Env → Prop
  | .nx, ρ' => Nx M fx Z H ρ φ σ D.nx ρ'
  | .bk, ρ' => Nx M fx Z H ρ φ σ D.bk ρ'
  | .ct, ρ' => Nx M fx Z H ρ φ σ D.ct ρ'
  | .rt o, ρ' => Rt M fx Z H ρ φ σ D.rt o ρ'
def tS (M : Mt) (fx : List Nat) (m : Env → Option (Flow × Env)) : TS := fun D σ H => ∃ Z ρ φ fl ρ', EOk M Z H σ ρ φ ∧ m ρ = some (fl, ρ') ∧ Dn M fx Z H ρ φ σ D fl ρ'
section
variable {fx : List Nat} {Z H Z1 H1 : Hp} {ρ ρ1 ρ' : Env} {φ φ1 : Nat → List Addr} {σ σ1 : L2.St}
theorem Nx.then {K : L2.St → Hp → Prop} (st : Stp Z H (Own ρ φ) Z1 H1 (Own ρ1 φ1)) (hf : ∀ i, i ∈ fx → σ1[i]? = σ[i]?) (h : Nx M fx Z H ρ φ σ K ρ') : Nx M fx Z1 H1 ρ1 φ1 σ1 K ρ' :=
  fun σ' Z' H' φ' s2 e hx => h σ' Z' H' φ' (st.trans s2) e fun i hi => (hx i hi).trans (hf i hi)
theorem Rt.then {Q : VK} {o : O} (st : Stp Z H (Own ρ φ) Z1 H1 (Own ρ1 φ1)) (hf : ∀ i, i ∈ fx → σ1[i]? = σ[i]?) (h : Rt M fx Z H ρ φ σ Q o ρ') : Rt M fx Z1 H1 ρ1 φ1 σ1 Q o ρ' :=
  fun v σ' Z' H' φ' f s2 e r z hx => h v σ' Z' H' φ' f (st.trans s2) e r z fun i hi => (hx i hi).trans (hf i hi)
theorem Dn.then {D : Ends} {fl : Flow} (st : Stp Z H (Own ρ φ) Z1 H1 (Own ρ1 φ1)) (hf : ∀ i, i ∈ fx → σ1[i]? = σ[i]?) (h : Dn M fx Z H ρ φ σ D fl ρ') : Dn M fx Z1 H1 ρ1 φ1 σ1 D fl ρ' := by
  cases fl with
  | nx => exact Nx.then st hf h
  | bk => exact Nx.then st hf h
  | ct => exact Nx.then st hf h
  | rt o => exact Rt.then st hf h
theorem set_fx {i : Nat} {v : Option V} (hi : i ∉ fx) : ∀ j, j ∈ fx → (σ.set i v)[j]? = σ[j]? := fun j hj => by
  rw [List.getElem?_set_ne (fun z => hi (by rw [z]; exact hj))]
/-- an owned thing stored -/
theorem EOk.store {i : Nat} {o : O} {v : V} {f : List Addr} (e : EOk M Z H σ ρ φ) (r : RpO M Z H o v f) (hf : ∀ a ∈ f, Z a = none ∧ ¬ Own ρ φ a) :
    ∃ φ', EOk M Z H (σ.set i (some v)) (setS ρ i (some o)) φ' ∧ ∀ a, Own (setS ρ i (some o)) φ' a → Own ρ φ a ∨ a ∈ f := by
  by_cases hi : i < ρ.length
  · exact ⟨_, e.set r hi fun a ha => ⟨(hf a ha).1, fun j u _ hj hm => (hf a ha).2 ⟨j, u, hj, hm⟩⟩, fun a ha => ha.set.symm⟩
  · rw [setS_out (by omega), List.set_eq_of_length_le (by rw [e.len]; omega)]
    exact ⟨φ, e, fun a => .inl⟩
end
theorem asg_k {i : Nat} {e : E} {D : Ends} {σ : L2.St} {H : Hp} {fx : List Nat} (hi : i ∉ fx) (h : tS M fx (evS G CL W C (.asg i e)) D σ H) : tM M (ev G CL C e false) σ H (fun v H1 => gName i v σ H1 D.nx) := by
  obtain ⟨Z, ρ, φ, fl, ρ', eo, hm, q⟩ := h
  unfold evS at hm
  cases q1 : ev G CL C e false ρ with
  | none => rw [q1] at hm; cases hm
  | some w =>
    obtain ⟨o, ρ1⟩ := w
    rw [q1] at hm
    cases hm
    refine ⟨Z, ρ, φ, o, ρ1, eo, q1, fun v Z1 H1 φ1 f st e1 r hf => ?_⟩
    obtain ⟨φ2, e2, ho⟩ := e1.store (i := i) r hf
    exact q _ Z1 H1 φ2 (st.less ho) e2 (set_fx hi)
theorem frz_k {e : E} {σ : L2.St} {H : Hp} {Q : VK} (h : tM M (ev G CL C (.frz e) false) σ H Q) : tM M (ev G CL C e false) σ H Q := by
  obtain ⟨Z, ρ, φ, o, ρ', eo, hm, q⟩ := h
  unfold ev at hm
  cases q1 : ev G CL C e false ρ with
  | none => rw [q1] at hm; cases hm
  | some w =>
    obtain ⟨o1, ρ1⟩ := w
    rw [q1] at hm
    cases hm
    exact rd_then eo q1 fun v Z1 H1 φ1 st e1 rp => q v Z1 H1 φ1 [] (st.less fun a z => z.elim id fun z => by cases z) e1 ⟨rfl, rp⟩ fun a ha => absurd ha (by simp)
theorem sw_not {e : Expr} {t : Option Expr} {l : Nat} {env : PySem.Env} (h : notLc e = true) : swapsWith e t l env = pure false := by
  cases e <;> first | rfl | cases h
/-- a comprehension's parts, told from the matcher -/
theorem comp_parts {tg : Tg} {k : ItK} {es cs : List E} {a : E} {elt tgt iter : Expr} {ifs : List Expr} {n0 : Int} {scope : Scope} {pos : Pos} (g : Gd M T G CL C n X s) (h : mE T (.comp tg k es cs a) s (.ListComp elt [⟨tgt, iter, ifs, n0⟩] scope pos) = true) :
    ∃ wi gg tt te vs, (∀ σ H Q, tM M (ev G CL C (.comp tg k es cs a) false) σ H Q → tLc wi gg tt te vs σ H Q) ∧ vs = ((tgNames tgt).zip tg.slots).map (·.2) ∧ PI X tgt iter wi ∧ BlkOk X.N X.env.scope scope ((tgNames tgt).zip tg.slots) ∧
      (∀ (s0 : Shared) (H : Hp) (Cd : Addr) (cl : List (Str × Addr)) (fp : List Addr), PG (X.blk s0 H scope (compEnvC scope cl Cd X.env) fp) tgt gg) ∧
      (∀ (s0 : Shared) (H : Hp) (Cd : Addr) (cl : List (Str × Addr)) (fp : List Addr), PTs (X.blk s0 H scope (compEnvC scope cl Cd X.env) fp) ifs tt) ∧
      (∀ (s0 : Shared) (H : Hp) (Cd : Addr) (cl : List (Str × Addr)) (fp : List Addr), PE (X.blk s0 H scope (compEnvC scope cl Cd X.env) fp) elt te) ∧ (∀ x, foldedSetIterable iter X.env x = pure x) ∧ n0 = 0 := by
  unfold mE at h
  simp only [Bool.and_eq_true, decide_eq_true_eq, beq_iff_eq] at h
  obtain ⟨⟨⟨⟨⟨⟨⟨h1, h2⟩, h3⟩, h4⟩, h5⟩, h6⟩, h7⟩, h8⟩ := h
  subst h1
  split at h2
  · rename_i xs hs
    have hi := it_ok g hs (sV es s X xs g h2)
    have hc : ∀ (s0 : Shared) (H : Hp) (Cd : Addr) (cl : List (Str × Addr)) (fp : List Addr), PTs (X.blk s0 H scope (compEnvC scope cl Cd X.env) fp) ifs (fun σ H Q => ∃ Z ρ φ b ρ', EOk M Z H σ ρ φ ∧ evC G CL C cs ρ = some (b, ρ') ∧ ∀ Z' H' φ', Stp Z H (Own ρ φ) Z' H' (Own ρ' φ') → EOk M Z' H' σ ρ' φ' → Q b H') := by
      intro s0 H Cd cl fp
      match cs, h6, h7 with
      | [], _, h7 =>
        have : ifs = [] := by
          unfold mEs at h7
          split at h7 <;> first | rfl | cases h7
        subst this
        refine ⟨fun pins s σ H Q I ⟨Z, ρ, φ, b, ρ', e, hm, q⟩ => pts_nil.run pins s σ H Q I ?_⟩
        cases hm
        exact q Z H φ .refl e
      | [c], _, h7 =>
        match ifs, h7 with
        | [x], h7 =>
          unfold mEs at h7
          rw [Bool.and_eq_true] at h7
          have hp := (sE c (blkSc s scope) _ x (g.blk (s0 := s0) (H := H) (Cd := Cd) (cl := cl) (fp := fp)) h7.1).2
          refine ⟨fun pins s σ H Q I ⟨Z, ρ, φ, b, ρ', e, hm, q⟩ => (pts_one hp).run pins s σ H Q I ⟨Z, ρ, φ, b, ρ', e, ?_, q⟩⟩
          unfold evC at hm
          split at hm
          · rename_i h1
            simp only at hm
            cases hm
            exact h1
          · cases hm
        | [], h7 => cases h7
        | _ :: _ :: _, h7 => simp [mEs] at h7
    obtain ⟨wi, gg, tt, te, vs, w1, w2, w3, w4, w5, w6, w7, w8⟩ := comp_ok (pos := pos) (PP := PI X tgt iter) g hi h3 h4 h5 hc fun s0 H Cd cl fp => (sE a (blkSc s scope) _ elt g.blk h8).1
    exact ⟨wi, gg, tt, te, vs, w1, w2, w3, w4, w5, w6, w7, w8, rfl⟩
  · cases h2
theorem isFun_k (g : Gd M T G CL C n X s) (h : isFun s = true) : X.env.scope.kind = .function := by
  unfold isFun at h
  rw [g.sc]
  split at h
  · assumption
  · cases h
theorem kLocal_k (g : Gd M T G CL C n X s) {x : Str} (h : kLocal s x = true) : X.env.scope.names.lookup x = some .local := by
  unfold kLocal at h
  rw [g.sc]
  split at h
  · assumption
  · cases h
theorem asg_comp (g : Gd M T G CL C n X s) {i : Nat} {e0 e : E} {x : Str} {v : Expr} {p spos : Pos} (hc : ∃ tg k es cs a, e0 = .comp tg k es cs a) (hl : loc s i x = true) (ho : lcOk s x p v = true) (hm : mE T e0 s v = true)
    (hw : ∀ σ H Q, tM M (ev G CL C e false) σ H Q → tM M (ev G CL C e0 false) σ H Q) : PS X (.Assign [.Name x p] v spos) (tS M s.fx (evS G CL W C (.asg i e))) := by
  obtain ⟨tg, k, es, cs, a, rfl⟩ := hc
  obtain ⟨l1, l2, l3, l4⟩ := g.loc (pos := p) hl
  unfold lcOk at ho
  split at ho
  · rename_i elt gs scope q
    simp only [Bool.and_eq_true, Bool.not_eq_true'] at ho
    obtain ⟨⟨⟨o1, o2⟩, o3⟩, o4⟩ := ho
    have kl := kLocal_k g o2
    match gs, hm with
    | [⟨tgt, iter, ifs, n0⟩], hm =>
      obtain ⟨wi, gg, tt, te, vs, w1, w2, w3, w4, w5, w6, w7, w8, rfl⟩ := comp_parts g hm
      subst w2
      exact PS.weak (ps_setLc g.calm g.nd l1 kl (sw_true (isFun_k g o1) kl o3 o4) w3 w4 w5 w6 w7 w8) fun D σ H h => w1 _ _ _ (hw _ _ _ (asg_k l4 h))
    | [], hm => simp [mE] at hm
    | _ :: _ :: _, hm => simp [mE] at hm
  · cases ho
end
end EV

namespace EV
open PyProof.Rows PySem L2 PySem.Spec
section
variable {M : Mt} {T : Stat} {G : List D} {CL : List (List Nat)} {C : CallF} {W n : Nat} {X : Cx} {s : Sc}
theorem asg_plain (g : Gd M T G CL C n X s) {i : Nat} {e : E} {x : Str} {v : Expr} {p spos : Pos} (hl : loc s i x = true) (hv : notLc v = true) (hm : PE X v (tM M (ev G CL C e false))) :
    PS X (.Assign [.Name x p] v spos) (tS M s.fx (evS G CL W C (.asg i e))) := by
  obtain ⟨l1, l2, l3, l4⟩ := g.loc (pos := p) hl
  exact PS.weak (ps_set g.nd l1 l2 hm (sw_not hv) l3) fun D σ H h => asg_k l4 h
theorem sw_cell {s0 : Sc} {v : Expr} {y : Str} {py : Pos} {l : Nat} {env : PySem.Env} (he : env.scope = s0.sc) (h : lcCell s0 y v = true) : swapsWith v (some (.Name y py)) l env = pure false := by
  unfold lcCell at h
  split at h
  · split at h
    · rename_i hk
      have ky : env.kindOf y = some .cell := by unfold PySem.Env.kindOf; rw [he]; exact hk
      unfold swapsWith
      simp only [ky]
      have e : ((some NameKind.cell : Option NameKind) == some .local) = false := by decide
      simp only [e, Bool.and_false, Bool.false_and]
    · cases h
  · cases h
theorem asg_ok (g : Gd M T G CL C n X s) {i : Nat} {e : E} {x : Str} {v : Expr} {p spos : Pos} (hl : loc s i x = true) (hs : (notLc v || lcCell s x v || (isComp e && lcOk s x p v)) = true) (hm : mE T e s v = true) :
    PS X (.Assign [.Name x p] v spos) (tS M s.fx (evS G CL W C (.asg i e))) := by
  by_cases hv : notLc v = true
  · exact asg_plain g hl hv (sE e s X v g hm).1
  by_cases hcl : lcCell s x v = true
  · obtain ⟨l1, l2, l3, l4⟩ := g.loc (pos := p) hl
    exact PS.weak (ps_set g.nd l1 l2 (sE e s X v g hm).1 (sw_cell g.sc hcl) l3) fun D σ H h => asg_k l4 h
  · have hv' : notLc v = false := by simpa using hv
    have hc' : lcCell s x v = false := by simpa using hcl
    rw [hv', hc', Bool.false_or, Bool.false_or, Bool.and_eq_true] at hs
    unfold isComp at hs
    obtain ⟨h1, h2⟩ := hs
    split at h1
    · exact asg_comp g ⟨_, _, _, _, _, rfl⟩ hl h2 hm fun _ _ _ h => h
    · unfold mE at hm
      rw [Bool.and_eq_true] at hm
      exact asg_comp g ⟨_, _, _, _, _, rfl⟩ hl h2 hm.2 fun _ _ _ h => frz_k h
    · cases h1
theorem mTgs_fx (g : Gd M T G CL C n X s) : ∀ {is : List Nat} {es : List Expr}, mTgs s is es = true → ∀ i, i ∈ is → i ∉ s.fx
  | [], [], _, i, hi => by cases hi
  | [], _ :: _, h, _, _ => by cases h
  | j :: is, e :: es, h, i, hi => by
    cases e with
    | Name x p =>
      unfold mTgs at h
      rw [Bool.and_eq_true] at h
      rcases List.mem_cons.mp hi with rfl | hi
      · exact (g.loc (pos := p) h.1).2.2.2
      · exact mTgs_fx g h.2 i hi
    | _ => cases h
  | _ :: _, [], h, _, _ => by cases h
theorem mTg_fx (g : Gd M T G CL C n X s) {tg : Tg} {e : Expr} (h : mTg s tg e = true) : ∀ i, i ∈ tg.slots → i ∉ s.fx := by
  unfold mTg at h
  split at h
  · intro i hi
    simp [Tg.slots] at hi
    subst hi
    exact (g.loc (pos := default) h).2.2.2
  · exact mTgs_fx g h
  · cases h
theorem bind_fx {tg : Tg} {fx : List Nat} {σ σ' : L2.St} (hn : ∀ i, i ∈ tg.slots → i ∉ fx) (h : ∀ i, i ∉ tg.slots → σ'[i]? = σ[i]?) : ∀ i, i ∈ fx → σ'[i]? = σ[i]? :=
  fun i hi => h i fun z => hn i z hi
theorem unp_k {is : List Nat} {e : E} {D : Ends} {σ : L2.St} {H : Hp} {fx : List Nat} (hi : ∀ i, i ∈ is → i ∉ fx) (h : tS M fx (evS G CL W C (.unp is e)) D σ H) : tM M (ev G CL C e false) σ H (fun v H1 => gT M.K (.many is) v σ H1 D.nx) := by
  obtain ⟨Z, ρ, φ, fl, ρ', eo, hm, q⟩ := h
  unfold evS at hm
  cases q1 : ev G CL C e false ρ with
  | none => rw [q1] at hm; cases hm
  | some w =>
    obtain ⟨o, ρ1⟩ := w
    rw [q1] at hm
    simp only at hm
    cases q2 : bindT (.many is) o.frz ρ1 with
    | none => rw [q2] at hm; cases hm
    | some ρ2 =>
      rw [q2] at hm
      cases hm
      refine rd_then eo q1 fun v Z1 H1 φ1 st e1 rp => bind_ok q2 e1 rp fun σ' φ' hl hs e2 ho _ => q σ' Z1 H1 φ' (st.less ho) e2 (bind_fx (tg := .many is) hi hs)
theorem unp_ok (g : Gd M T G CL C n X s) {is : List Nat} {e : E} {ts : List Expr} {v : Expr} {k : Nat} {p spos : Pos} (h1 : notTup v = true) (h2 : notLc v = true) (h3 : mTgs s is ts = true) (hm : PE X v (tM M (ev G CL C e false))) :
    PS X (.Assign [.Tuple ts k p] v spos) (tS M s.fx (evS G CL W C (.unp is e))) := by
  have hg : PG X (.Tuple ts k p) (gT M.K (.many is)) := g_ok g (tg := .many is) (e := .Tuple ts k p) h3
  refine PS.weak (ps_asg hm hg (by unfold swapsWithSole; exact sw_not h2) ?_ rfl) fun D σ H h => unp_k (mTgs_fx g h3) h
  cases v <;> first | rfl | cases h1
theorem blk_fun {env : PySem.Env} (h : env.scope.kind = .function) : env.blockKind = .function := by unfold Env.blockKind; rw [h]; rfl
theorem par_ok (g : Gd M T G CL C n X s) {i j : Nat} {u w : E} {x y : Str} {a b : Expr} {px py p p2 spos : Pos} {k k2 : Nat} (h : parOk s i j x y px py a b = true) (ha : PE X a (tM M (ev G CL C u false))) (hb : PE X b (tM M (ev G CL C w false))) :
    PS X (.Assign [.Tuple [.Name x px, .Name y py] k p] (.Tuple [a, b] k2 p2) spos) (tS M s.fx (evS G CL W C (.unp [i, j] (.tup [u, w])))) := by
  unfold parOk at h
  simp only [Bool.and_eq_true, decide_eq_true_eq, Bool.not_eq_true', beq_iff_eq] at h
  obtain ⟨⟨⟨⟨⟨⟨⟨⟨⟨⟨⟨⟨⟨h1, h2⟩, h3⟩, h4⟩, h5⟩, h6⟩, h7⟩, h8⟩, h9⟩, h10⟩, h11⟩, h12⟩, h13⟩, h14⟩ := h
  have kx := kLocal_k g h2
  have ky := kLocal_k g h3
  have hbk := blk_fun (isFun_k g h1)
  have e1 : X.env.kindOf x = some .local := kx
  have e2 : X.env.kindOf y = some .local := ky
  have hw : swappedStores [.Tuple [.Name x px, .Name y py] k p] (.Tuple [a, b] k2 p2) X.env = pure (some [x, y]) := by
    have ed : ([x, y].eraseDups).length = 2 := by
      have : (y == x) = false := by simpa using fun z => h10 z.symm
      simp [List.eraseDups_cons, this]
    have c1 : (([a, b].all (foldedForSure 8)) = false) := by simpa [List.all_cons] using h13
    have c2 : (([a, b].all (constantsAlone 8)) = false) := by simpa [List.all_cons] using h14
    unfold swappedStores
    simp only [hbk, c1, c2]
    simp [e1, e2, h9, ed, Expr.pos]
    intro z
    exfalso
    rcases z with z | z <;> split at z <;> first | (cases z; done) | (cases h11; done) | (cases h12; done)
  refine PS.weak (ps_par g.calm g.nd (by rw [g.N]; exact h4) (by rw [g.N]; exact h5) h6 kx ky (pa_of (ts := [tM M (ev G CL C u false), tM M (ev G CL C w false)]) ⟨ha, hb, True.intro⟩ (by simp [h11, h12])) hw rfl) fun D σ H h => ?_
  obtain ⟨Z, ρ, φ, fl, ρ', eo, hm, q⟩ := h
  unfold evS at hm
  unfold ev at hm
  cases q1 : evV G CL C [u, w] ρ with
  | none => rw [q1] at hm; cases hm
  | some z =>
    obtain ⟨ds, ρ1⟩ := z
    rw [q1] at hm
    simp only at hm
    by_cases hz : ds.length ≤ sizeLine
    · rw [if_pos hz] at hm
      simp only [post] at hm
      cases q2 : bindT (.many [i, j]) (O.val (.tup ds)).frz ρ1 with
      | none => rw [q2] at hm; cases hm
      | some ρ2 =>
        rw [q2] at hm
        cases hm
        refine vals_ok [u, w] eo q1 fun vs Z1 H1 φ1 st e1 ra => ?_
        have q3 : bindMany [i, j] ds ρ1 = some _ := q2
        have hl := bindMany_len q3
        match ds, vs, hl, ra, q3 with
        | [d1, d2], [v1, v2], _, ra, q3 =>
          refine ⟨v1, v2, rfl, ?_⟩
          have hg : gMany [i, j] [v1, v2] σ H1 (fun σ' H' => σ' = (σ.set i (some v1)).set j (some v2) → D.nx σ' H') := many_ok q3 e1 ra fun σ' φ' hl hs e2 ho _ => fun es => by
            refine q σ' Z1 H1 φ' (st.less ho) e2 (bind_fx (tg := .many [i, j]) (fun a ha => ?_) hs)
            simp [Tg.slots] at ha
            rcases ha with rfl | rfl
            · simpa using h7
            · simpa using h8
          obtain ⟨_, _, hv, _, _, hv2, _, hg⟩ := hg
          cases hv
          cases hv2
          exact hg rfl
        | [_, _], [], _, ra, _ => obtain ⟨_, _, z, _⟩ := ra; cases z
        | [_, _], [_], _, ra, _ => obtain ⟨_, _, z, _, _, _, z2, _⟩ := ra; cases z; cases z2
        | [_, _], _ :: _ :: _ :: _, _, ra, _ => obtain ⟨_, _, z, _, _, _, z2, _, z3⟩ := ra; cases z; cases z2; cases z3
    · rw [if_neg hz] at hm; cases hm
theorem expr_ok {e : E} {y : Expr} {fx : List Nat} {pos : Pos} (h1 : notLc y = true) (hm : PE X y (tM M (ev G CL C e false))) : PS X (.Expr y pos) (tS M fx (evS G CL W C (.expr e))) := by
  refine PS.weak (ps_expr hm (sw_not h1)) fun D σ H h => ?_
  obtain ⟨Z, ρ, φ, fl, ρ', eo, hm, q⟩ := h
  unfold evS at hm
  cases q1 : ev G CL C e false ρ with
  | none => rw [q1] at hm; cases hm
  | some w =>
    obtain ⟨o, ρ1⟩ := w
    rw [q1] at hm
    cases hm
    exact ⟨Z, ρ, φ, o, _, eo, q1, fun v Z1 H1 φ1 f st e1 r hf => q σ Z1 H1 φ1 (st.less fun a => .inl) e1 fun _ _ => rfl⟩
theorem ret_ok {e : E} {y : Expr} {fx : List Nat} {pos : Pos} (hm : PE X y (tM M (ev G CL C e false))) : PS X (.Return (some y) pos) (tS M fx (evS G CL W C (.ret e))) := by
  refine PS.weak (ps_ret hm) fun D σ H h => ?_
  obtain ⟨Z, ρ, φ, fl, ρ', eo, hm, q⟩ := h
  unfold evS at hm
  cases q1 : ev G CL C e false ρ with
  | none => rw [q1] at hm; cases hm
  | some w =>
    obtain ⟨o, ρ1⟩ := w
    rw [q1] at hm
    cases hm
    exact ⟨Z, ρ, φ, _, _, eo, q1, fun v Z1 H1 φ1 f st e1 r hf => q v σ Z1 H1 φ1 f st e1 r hf fun _ _ => rfl⟩
theorem retN_ok {fx : List Nat} {pos : Pos} : PS X (.Return none pos) (tS M fx (evS G CL W C .retN)) := by
  refine PS.weak ps_retN fun D σ H h => ?_
  obtain ⟨Z, ρ, φ, fl, ρ', eo, hm, q⟩ := h
  cases hm
  exact q .non σ Z H φ [] (Stp.refl.less fun a z => z.elim id fun z => by cases z) eo ⟨rfl, rfl⟩ (fun a ha => absurd ha (by simp)) fun _ _ => rfl
theorem nx_here {K : L2.St → Hp → Prop} {fx : List Nat} {Z H : Hp} {ρ : Env} {φ : Nat → List Addr} {σ : L2.St} (e : EOk M Z H σ ρ φ) (q : Nx M fx Z H ρ φ σ K ρ) : K σ H := q σ Z H φ .refl e fun _ _ => rfl
theorem pass_ok {fx : List Nat} {pos : Pos} : PS X (.Pass pos) (tS M fx (evS G CL W C .pass)) := PS.weak ps_pass fun D σ H ⟨Z, ρ, φ, fl, ρ', eo, hm, q⟩ => by
  cases hm
  exact nx_here eo q
theorem doc_ok {fx : List Nat} {y : Expr} {pos : Pos} (h : docE y = true) : PS X (.Expr y pos) (tS M fx (evS G CL W C .pass)) := by
  unfold docE at h
  split at h
  · exact PS.weak ps_doc fun D σ H ⟨Z, ρ, φ, fl, ρ', eo, hm, q⟩ => by
      cases hm
      exact nx_here eo q
  · cases h
theorem brk_ok {fx : List Nat} {pos : Pos} : PS X (.Break pos) (tS M fx (evS G CL W C .brk)) := PS.weak ps_break fun D σ H ⟨Z, ρ, φ, fl, ρ', eo, hm, q⟩ => by
  cases hm
  exact nx_here eo q
theorem cont_ok {fx : List Nat} {pos : Pos} : PS X (.Continue pos) (tS M fx (evS G CL W C .cont)) := PS.weak ps_continue fun D σ H ⟨Z, ρ, φ, fl, ρ', eo, hm, q⟩ => by
  cases hm
  exact nx_here eo q
theorem fail_ok {fx : List Nat} {st : Stmt} : PS X st (tS M fx (evS G CL W C .fail)) := ⟨fun pins s σ H D I ⟨Z, ρ, φ, fl, ρ', eo, hm, q⟩ => by unfold evS at hm; cases hm⟩
theorem failL_ok {fx : List Nat} {sts : List Stmt} {ss : List S} : PSs X sts (tS M fx (evSs G CL W C (.fail :: ss))) := ⟨fun pins s σ H D I ⟨Z, ρ, φ, fl, ρ', eo, hm, q⟩ => by unfold evSs evS at hm; cases hm⟩
theorem nil_ok {fx : List Nat} : PSs X [] (tS M fx (evSs G CL W C [])) := ⟨fun pins s σ H D I ⟨Z, ρ, φ, fl, ρ', eo, hm, q⟩ => pss_nil.run pins s σ H D I (by
  unfold evSs at hm
  cases hm
  exact nx_here eo q)⟩
theorem cons_ok {fx : List Nat} {st : Stmt} {sts : List Stmt} {x : S} {ss : List S} (h1 : PS X st (tS M fx (evS G CL W C x))) (h2 : PSs X sts (tS M fx (evSs G CL W C ss))) : PSs X (st :: sts) (tS M fx (evSs G CL W C (x :: ss))) := by
  refine PSs.weak (pss_cons h1 h2) fun D σ H ⟨Z, ρ, φ, fl, ρ', eo, hm, q⟩ => ?_
  unfold evSs at hm
  cases q1 : evS G CL W C x ρ with
  | none => rw [q1] at hm; cases hm
  | some w =>
    obtain ⟨f1, ρ1⟩ := w
    rw [q1] at hm
    cases f1 with
    | nx => exact ⟨Z, ρ, φ, .nx, ρ1, eo, q1, fun σ' Z' H' φ' st e' hx => ⟨Z', ρ1, φ', fl, ρ', e', hm, q.then st hx⟩⟩
    | bk => cases hm; exact ⟨Z, ρ, φ, .bk, _, eo, q1, q⟩
    | ct => cases hm; exact ⟨Z, ρ, φ, .ct, _, eo, q1, q⟩
    | rt o => cases hm; exact ⟨Z, ρ, φ, .rt o, _, eo, q1, q⟩
theorem if_ok {fx : List Nat} {c : E} {a b : List S} {x : Expr} {u w : List Stmt} {pos : Pos} (hc : PT X x (tT M (ev G CL C c true))) (ha : PSs X u (tS M fx (evSs G CL W C a))) (hb : PSs X w (tS M fx (evSs G CL W C b))) :
    PS X (.If x u w pos) (tS M fx (evS G CL W C (.ite c a b))) := by
  refine PS.weak (ps_if hc ha hb) fun D σ H ⟨Z, ρ, φ, fl, ρ', eo, hm, q⟩ => ?_
  unfold evS at hm
  split at hm
  · rename_i ρ1 h1
    exact ⟨Z, ρ, φ, true, ρ1, eo, h1, fun Z1 H1 φ1 st e1 => iteT ⟨Z1, ρ1, φ1, fl, ρ', e1, hm, q.then st fun _ _ => rfl⟩⟩
  · rename_i ρ1 h1
    exact ⟨Z, ρ, φ, false, ρ1, eo, h1, fun Z1 H1 φ1 st e1 => iteF ⟨Z1, ρ1, φ1, fl, ρ', e1, hm, q.then st fun _ _ => rfl⟩⟩
  · cases hm
theorem while_ok (g : Gd M T G CL C n X s) {fx : List Nat} {c : E} {b : List S} {x : Expr} {u : List Stmt} {pos : Pos} (hc : PT X x (tT M (ev G CL C c true))) (hb : PSs X u (tS M fx (evSs G CL W C b))) :
    PS X (.While x u [] pos) (tS M fx (evS G CL W C (.while c b))) := by
  refine PS.weak (ps_while (by rw [g.xe]; exact PassesOwn.never) hc hb) fun D σ H ⟨Z, ρ, φ, fl, ρ', eo, hm, q⟩ => ?_
  unfold evS at hm
  refine ⟨fun m σ2 H2 => ∃ Z2 ρ2 φ2, EOk M Z2 H2 σ2 ρ2 φ2 ∧ Stp Z H (Own ρ φ) Z2 H2 (Own ρ2 φ2) ∧ (∀ i, i ∈ fx → σ2[i]? = σ[i]?) ∧ whileGo (ev G CL C c true) (evSs G CL W C b) m ρ2 = some (fl, ρ'), ⟨W, Z, ρ, φ, eo, .refl, fun _ _ => rfl, hm⟩, ?_⟩
  rintro m σ2 H2 ⟨Z2, ρ2, φ2, e2, st2, hx2, hgo⟩
  cases m with
  | zero => cases hgo
  | succ m =>
    unfold whileGo at hgo
    split at hgo
    · rename_i ρ3 h3
      refine ⟨Z2, ρ2, φ2, true, ρ3, e2, h3, fun Z3 H3 φ3 st3 e3 => iteT ⟨fun σ' H' => ∃ Z2 ρ2 φ2, EOk M Z2 H' σ' ρ2 φ2 ∧ Stp Z H (Own ρ φ) Z2 H' (Own ρ2 φ2) ∧ (∀ i, i ∈ fx → σ'[i]? = σ[i]?) ∧ whileGo (ev G CL C c true) (evSs G CL W C b) m ρ2 = some (fl, ρ'), fun σ' H' z => ⟨m, Nat.lt_succ_self m, z⟩, ?_⟩⟩
      have st13 := st2.trans st3
      split at hgo
      · cases hgo
      · rename_i ρ4 h4
        exact ⟨Z3, ρ3, φ3, .nx, ρ4, e3, h4, fun σ' Z4 H4 φ4 st4 e4 hx4 => ⟨Z4, ρ4, φ4, e4, st13.trans st4, fun i hi => (hx4 i hi).trans (hx2 i hi), hgo⟩⟩
      · rename_i ρ4 h4
        exact ⟨Z3, ρ3, φ3, .ct, ρ4, e3, h4, fun σ' Z4 H4 φ4 st4 e4 hx4 => ⟨Z4, ρ4, φ4, e4, st13.trans st4, fun i hi => (hx4 i hi).trans (hx2 i hi), hgo⟩⟩
      · rename_i ρ4 h4
        cases hgo
        exact ⟨Z3, ρ3, φ3, .bk, _, e3, h4, Nx.then st13 hx2 q⟩
      · rename_i o ρ4 h4
        cases hgo
        exact ⟨Z3, ρ3, φ3, .rt o, _, e3, h4, Rt.then st13 hx2 q⟩
    · rename_i ρ3 h3
      cases hgo
      exact ⟨Z2, ρ2, φ2, false, _, e2, h3, fun Z3 H3 φ3 st3 e3 => iteF (q σ2 Z3 H3 φ3 (st2.trans st3) e3 hx2)⟩
    · cases hgo
theorem for_ok (g : Gd M T G CL C n X s) {tg : Tg} {k : ItK} {es : List E} {b : List S} {tgt iter : Expr} {u : List Stmt} {pos : Pos} (hi : PI X tgt iter (tI M G CL C k es)) (hns : notSet iter = true) (htg : mTg s tg tgt = true) (hb : PSs X u (tS M s.fx (evSs G CL W C b))) :
    PS X (.For tgt iter u [] pos) (tS M s.fx (evS G CL W C (.for tg k es b))) := by
  refine PS.weak (ps_for (by rw [g.xe]; exact PassesOwn.never) g.calm hi (g_ok g htg) hb (fun x => by cases iter <;> first | rfl | cases hns)) fun D σ H ⟨Z, ρ, φ, fl, ρ', eo, hm, q⟩ => ?_
  unfold evS at hm
  cases h1 : evV G CL C es ρ with
  | none => rw [h1] at hm; cases hm
  | some p1 =>
  obtain ⟨ds, ρ1⟩ := p1
  rw [h1] at hm
  simp only at hm
  cases h2 : iterD k ds with
  | none => rw [h2] at hm; cases hm
  | some xs =>
  rw [h2] at hm
  simp only at hm
  refine ⟨Z, ρ, φ, ds, ρ1, xs, eo, h1, h2, fun J Z1 H1 φ1 st1 e1 hJ => ?_⟩
  refine ⟨fun i m σ2 H2 => m = xs.length - i ∧ i ≤ xs.length ∧ ∃ Z2 ρ2 φ2, EOk M Z2 H2 σ2 ρ2 φ2 ∧ Stp Z1 H1 (Own ρ1 φ1) Z2 H2 (Own ρ2 φ2) ∧ (∀ i, i ∈ s.fx → σ2[i]? = σ[i]?) ∧ forGo (bindT tg) (evSs G CL W C b) (xs.drop i) ρ2 = some (fl, ρ'), ⟨xs.length, by simp, Nat.zero_le _, Z1, ρ1, φ1, e1, .refl, fun _ _ => rfl, by rw [List.drop_zero]; exact hm⟩, ?_⟩
  rintro i m σ2 H2 ⟨rfl, hi', Z2, ρ2, φ2, e2, st2, hx2, hgo⟩
  by_cases hlt : i < xs.length
  · refine .inr ⟨hJ.go i H2 (st2.zz.trans e2.sub) hlt, fun σ' H' => i + 1 ≤ xs.length ∧ ∃ Z2 ρ2 φ2, EOk M Z2 H' σ' ρ2 φ2 ∧ Stp Z1 H1 (Own ρ1 φ1) Z2 H' (Own ρ2 φ2) ∧ (∀ i, i ∈ s.fx → σ'[i]? = σ[i]?) ∧ forGo (bindT tg) (evSs G CL W C b) (xs.drop (i + 1)) ρ2 = some (fl, ρ'), fun σ' H' z => ⟨xs.length - (i + 1), by omega, rfl, z⟩, fun v H3 hy => ?_⟩
    have hx : xs[i]? = some xs[i] := List.getElem?_eq_getElem hlt
    obtain ⟨Z3, x3, r3⟩ := hJ.yld i H2 v H3 Z2 _ st2.zz e2.sub hx hy
    have e3 := e2.ext x3
    rw [List.drop_eq_getElem_cons hlt] at hgo
    unfold forGo at hgo
    cases h5 : bindT tg xs[i] ρ2 with
    | none => rw [h5] at hgo; cases hgo
    | some ρ3 =>
    rw [h5] at hgo
    simp only at hgo
    refine bind_ok h5 e3 r3 fun σ' φ3 hl hs e4 ho _ => ?_
    have hx3 : ∀ i, i ∈ s.fx → σ'[i]? = σ[i]? := fun j hj => (bind_fx (mTg_fx g htg) hs j hj).trans (hx2 j hj)
    have st13 : Stp Z1 H1 (Own ρ1 φ1) Z3 H3 (Own ρ3 φ3) := (st2.trans (x3.stp (P := Own ρ2 φ2))).less fun a z => .inl (ho a z)
    split at hgo
    · cases hgo
    · rename_i ρ4 h4
      exact ⟨Z3, ρ3, φ3, .nx, ρ4, e4, h4, fun σ5 Z5 H5 φ5 st5 e5 hx5 => ⟨hlt, Z5, ρ4, φ5, e5, st13.trans st5, fun j hj => (hx5 j hj).trans (hx3 j hj), hgo⟩⟩
    · rename_i ρ4 h4
      exact ⟨Z3, ρ3, φ3, .ct, ρ4, e4, h4, fun σ5 Z5 H5 φ5 st5 e5 hx5 => ⟨hlt, Z5, ρ4, φ5, e5, st13.trans st5, fun j hj => (hx5 j hj).trans (hx3 j hj), hgo⟩⟩
    · rename_i ρ4 h4
      cases hgo
      exact ⟨Z3, ρ3, φ3, .bk, _, e4, h4, Nx.then (st1.trans st13) hx3 q⟩
    · rename_i o ρ4 h4
      cases hgo
      exact ⟨Z3, ρ3, φ3, .rt o, _, e4, h4, Rt.then (st1.trans st13) hx3 q⟩
  · have : i = xs.length := by omega
    subst this
    rw [List.drop_length] at hgo
    have hgo : some (Flow.nx, ρ2) = some (fl, ρ') := hgo
    simp only [Option.some.injEq, Prod.mk.injEq] at hgo
    obtain ⟨hr0, hr1⟩ := hgo
    subst hr0
    subst hr1
    exact .inl ⟨hJ.stop _ H2 (st2.zz.trans e2.sub) (Nat.le_refl _), q σ2 Z2 H2 φ2 (st1.trans st2) e2 hx2⟩
end
end EV

namespace EV
open PyProof.Rows PySem L2 PySem.Spec
section
variable {M : Mt} {T : Stat} {G : List D} {CL : List (List Nat)} {C : CallF} {W n : Nat} {X : Cx} {s : Sc}
theorem vis_cell {s : Sc} {i : Nat} {x : Str} (h : vis s i x = true) : s.N[i]? = some x := by
  unfold EV.vis at h
  simp only [Bool.and_eq_true, decide_eq_true_eq] at h
  exact h.1.1
theorem app_stm (g : Gd M T G CL C n X s) {i : Nat} {e : E} {x : Str} {y : Expr} {fx : List Nat} {p apos cpos pos : Pos} (hv : vis s i x = true) (hl : (apos.endLine == cpos.line) = true) (hy : notStar y = true) (ha : PE X y (tM M (ev G CL C e false))) :
    PS X (.Expr (.Call (.Attribute (.Name x p) "append" apos) [y] [] cpos) pos) (tS M fx (evS G CL W C (.mut .app i [e]))) := by
  have hst := starEach_of (xs := []) (env := X.env) hy
  refine PS.weak (ps_expr (pe_bm PySem.F.plainAttrs_list PySem.F.slot_list_append PySem.F.type_list_append mt_append (g.vis hv) (pa_cons ha pa_nil hst) rfl (by rw [hst]; rfl) hl hst rfl)) fun D σ H ⟨Z, ρ, φ, fl, ρ', eo, hm, q⟩ => ?_
  unfold evS at hm
  split at hm
  · rename_i xs0 hi0
    unfold evV at hm
    cases q1 : ev G CL C e false ρ with
    | none => rw [q1] at hm; cases hm
    | some w =>
    obtain ⟨o1, ρ1⟩ := w
    rw [q1] at hm
    simp only [evV] at hm
    split at hm
    · cases hm
    · rename_i o hi
      split at hm
      · cases hm
      · rename_i o' ho'
        cases hm
        cases o with
        | lst xs =>
          unfold mutO at ho'
          simp only at ho'
          obtain ⟨hz, ho'⟩ := ite_some ho'
          cases ho'
          obtain ⟨v, h1, h2⟩ := eo.hold i _ hi0
          obtain ⟨b, vs0, rfl, h3, h4, h5⟩ := h2
          refine ⟨.ref b, h1, Or.inl ⟨rfl, vs0, .inl (.inl h4)⟩, ?_⟩
          refine rd_then eo q1 fun w Z1 H1 φ1 st1 e1 rp => ?_
          obtain ⟨v', g1, g2⟩ := e1.hold i _ hi
          rw [h1] at g1
          cases g1
          obtain ⟨b', vs, eb, f3, f4, f5⟩ := g2
          cases eb
          obtain ⟨e2, st2⟩ := slot_write (o' := .lst (xs ++ [o1.frz])) (ho := .lst (vs ++ [w])) e1 hi f3 (fun H' hH => ⟨b, _, rfl, rfl, hH, f5.snoc rp⟩) h1
          exact ⟨b, vs, w, rfl, rfl, f4, by rw [f5.length]; exact hz, q σ Z1 _ φ1 (st1.trans st2) e2 fun _ _ => rfl⟩
        | _ => cases ho'
  · cases hm
theorem ext_stm (g : Gd M T G CL C n X s) {i : Nat} {e : E} {x : Str} {y : Expr} {fx : List Nat} {p apos cpos pos : Pos} (hv : vis s i x = true) (hl : (apos.endLine == cpos.line) = true) (hy : notStar y = true) (ha : PE X y (tM M (ev G CL C e false))) :
    PS X (.Expr (.Call (.Attribute (.Name x p) "extend" apos) [y] [] cpos) pos) (tS M fx (evS G CL W C (.ext i e))) := by
  have hst := starEach_of (xs := []) (env := X.env) hy
  refine PS.weak (ps_expr (pe_bm PySem.F.plainAttrs_list PySem.F.slot_list_extend PySem.F.type_list_extend mt_extend (g.vis hv) (pa_cons ha pa_nil hst) rfl (by rw [hst]; rfl) hl hst rfl)) fun D σ H ⟨Z, ρ, φ, fl, ρ', eo, hm, q⟩ => ?_
  unfold evS at hm
  split at hm
  · rename_i xs0 hi0
    split at hm
    · rename_i ys ρ1 q1
      split at hm
      · rename_i xs hi
        obtain ⟨hz, hm⟩ := ite_some hm
        cases hm
        obtain ⟨v, h1, h2⟩ := eo.hold i _ hi0
        obtain ⟨b, vs0, rfl, h3, h4, h5⟩ := h2
        refine ⟨.ref b, h1, Or.inl ⟨rfl, vs0, .inl (.inl h4)⟩, Z, ρ, φ, .lst ys, ρ1, eo, q1, fun w Z1 H1 φ1 f st1 e1 rp hf => ?_⟩
        obtain ⟨c, zs, rfl, rfl, g3, g4⟩ := rp
        obtain ⟨v', g1, g2⟩ := e1.hold i _ hi
        rw [h1] at g1
        cases g1
        obtain ⟨b', vs, eb, f3, f4, f5⟩ := g2
        cases eb
        obtain ⟨e2, st2⟩ := slot_write (o' := .lst (xs ++ ys)) (ho := .lst (vs ++ zs)) e1 hi f3 (fun H' hH => ⟨b, _, rfl, rfl, hH, f5.append g4⟩) h1
        exact ⟨b, c, vs, zs, rfl, rfl, f4, g3, by rw [f5.length, g4.length]; exact hz, q σ Z1 _ φ1 ((st1.less fun a => .inl).trans st2) e2 fun _ _ => rfl⟩
      · cases hm
    · cases hm
  · cases hm
theorem rev_stm (g : Gd M T G CL C n X s) {i : Nat} {x : Str} {fx : List Nat} {p apos cpos pos : Pos} (hv : vis s i x = true) (hl : (apos.endLine == cpos.line) = true) :
    PS X (.Expr (.Call (.Attribute (.Name x p) "reverse" apos) [] [] cpos) pos) (tS M fx (evS G CL W C (.mut .rev i []))) := by
  refine PS.weak (ps_expr (pe_bm0 PySem.F.plainAttrs_list PySem.F.slot_list_reverse PySem.F.type_list_reverse mt_reverse (g.vis hv) rfl hl)) fun D σ H ⟨Z, ρ, φ, fl, ρ', eo, hm, q⟩ => ?_
  unfold evS at hm
  split at hm
  · rename_i xs0 hi0
    simp only [evV] at hm
    split at hm
    · cases hm
    · rename_i o hi
      rw [hi0] at hi
      cases hi
      split at hm
      · cases hm
      · rename_i o' ho'
        cases hm
        cases ho'
        obtain ⟨v, h1, h2⟩ := eo.hold i _ hi0
        obtain ⟨b, vs0, rfl, h3, h4, h5⟩ := h2
        obtain ⟨e2, st2⟩ := slot_write (o' := .lst xs0.reverse) (ho := .lst vs0.reverse) eo hi0 h3 (fun H' hH => ⟨b, _, rfl, rfl, hH, h5.rev⟩) h1
        exact ⟨.ref b, h1, Or.inl ⟨rfl, vs0, .inl (.inl h4)⟩, b, vs0, rfl, rfl, h4, q σ Z _ φ st2 e2 fun _ _ => rfl⟩
  · cases hm
theorem aug_stm (g : Gd M T G CL C n X s) {i : Nat} {pr : Pr} {op : Operator} {e : E} {x : Str} {y : Expr} {p pos : Pos} (hv : loc s i x = true) (ho : augOf pr = some op) (ha : PE X y (tM M (ev G CL C e false))) :
    PS X (.AugAssign (.Name x p) op y pos) (tS M s.fx (evS G CL W C (.aug i pr e))) := by
  obtain ⟨l1, l2, l3, l4⟩ := g.loc (pos := p) hv
  have key : ∀ (f : Int → Int → Int), PIp X op (ipI f) → (∀ a b r, prim pr [.int a, .int b] = some (.val (.int r)) → r = f a b) → PS X (.AugAssign (.Name x p) op y pos) (tS M s.fx (evS G CL W C (.aug i pr e))) := by
    intro f hp hpr
    refine PS.weak (ps_aug g.nd l1 l2 ha hp l3) fun D σ H ⟨Z, ρ, φ, fl, ρ', eo, hm, q⟩ => ?_
    unfold evS at hm
    split at hm
    · rename_i a hi
      cases q1 : ev G CL C e false ρ with
      | none => rw [q1] at hm; cases hm
      | some w =>
      obtain ⟨o1, ρ1⟩ := w
      rw [q1] at hm
      simp only at hm
      split at hm
      · rename_i b hb
        split at hm
        · rename_i r hr
          cases hm
          have := hpr _ _ _ hr
          subst this
          obtain ⟨v, h1, h2⟩ := eo.hold i _ hi
          obtain ⟨_, h2⟩ := h2
          have h2 : v = .int a := h2
          subst h2
          refine ⟨.int a, h1, rd_then eo q1 fun w Z1 H1 φ1 st1 e1 rp => ?_⟩
          rw [hb] at rp
          refine ⟨a, b, rfl, rp, ?_⟩
          exact q _ Z1 H1 _ (st1.less fun z hz => by
            rcases hz.set with h | h
            · cases h
            · exact h) (e1.setV (i := i) (d := .int (f a b)) (v := .int (f a b)) rfl) (set_fx l4)
        · cases hm
      · cases hm
    · cases hm
  unfold augOf at ho
  split at ho
  · cases ho
    exact key _ ip_add fun a b r h => by cases h; rfl
  · cases ho
    exact key _ ip_sub fun a b r h => by cases h; rfl
  · cases ho
end
end EV

namespace EV
open PyProof.Rows PySem L2 PySem.Spec
theorem PS.or {X : Cx} {st : Stmt} {t u : TS} (h1 : PS X st t) (h2 : PS X st u) : PS X st (fun D σ H => t D σ H ∨ u D σ H) :=
  ⟨fun pins s σ H D I h => h.elim (h1.run pins s σ H D I) (h2.run pins s σ H D I)⟩
section
variable {M : Mt} {T : Stat} {G : List D} {CL : List (List Nat)} {C : CallF} {W n : Nat} {X : Cx} {s : Sc}
theorem key1_kV {Z : Hp} {d : D} {v : V} {k : Key} (h : key1 d = some k) (r : Rp M Z d v) : v = kV k := by
  cases d with
  | int i => cases h; exact r
  | str x => cases h; exact r
  | _ => cases h
/-- a key made anew -/
def tK (M : Mt) (m : Env → Option (O × Env)) : TE := fun σ H Q => ∃ Z ρ φ ds ρ', EOk M Z H σ ρ φ ∧ m ρ = some (.val (.tup ds), ρ') ∧
  ∀ b xs Z' H' φ', Stp Z H (Own ρ φ) Z' H' (Own ρ' φ') → EOk M Z' H' σ ρ' φ' → H' b = some (.tup xs) → RpA M Z' ds xs → Q (.ref b) H'
theorem new_key {Z H Z1 H1 : Hp} {σ : L2.St} {ρ ρ1 : Env} {φ φ1 : Nat → List Addr} {ds : List D} {vs : List V} {Q : VK} (e1 : EOk M Z1 H1 σ ρ1 φ1) (st : Stp Z H (Own ρ φ) Z1 H1 (Own ρ1 φ1)) (ra : RpA M Z1 ds vs)
    (q : ∀ b xs Z' H' φ', Stp Z H (Own ρ φ) Z' H' (Own ρ1 φ') → EOk M Z' H' σ ρ1 φ' → H' b = some (.tup xs) → RpA M Z' ds xs → Q (.ref b) H') {p : Addr} (hp : H1 p = none) : Q (.ref p) (upd H1 p (.tup vs)) := by
  obtain ⟨Z2, x, h1, h2⟩ := new_tupK e1.sub ra hp
  exact q p vs Z2 _ φ1 ((st.trans x.stp).less fun a => .inl) (e1.ext x) (x.zh _ _ h1) h2
theorem key_call (g : Gd M T G CL C n X s) {a : E} {y : Expr} (h : mE T (.op .tupleL [a]) s y = true) : ∃ x p a0 pos, y = .Call (.Name x p) [a0] [] pos ∧ x = "tuple" ∧ gl s x = true ∧ notStar a0 = true ∧ mEs T [a] s [a0] = true := by
  unfold mE at h
  split at h
  · rename_i xs hx
    unfold opShape at hx
    split at hx
    · simp [binOf] at hx
    · simp at hx
    · simp [cmpOf] at hx
    · split at hx <;> simp at hx
    · simp at hx
    · obtain ⟨⟨h1, h2, h3, h4, h5⟩, hx⟩ := ite_some hx
      cases hx
      refine ⟨_, _, _, _, rfl, ?_, h2, h1, h⟩
      rcases h3 with h3 | h3
      · cases h3
      · simp only [tyOf, Option.some.injEq] at h3
        exact h3.symm
    · obtain ⟨_, hx⟩ := ite_some hx
      split at hx <;> simp_all
    · cases hx
  · cases h
theorem frsh_or {k : E} (h : frsh k = true) : (∃ es, k = .tup es) ∨ ∃ a, k = .op .tupleL [a] := by
  unfold frsh at h
  split at h
  · exact .inl ⟨_, rfl⟩
  · exact .inr ⟨_, rfl⟩
  · cases h
theorem key_tup (g : Gd M T G CL C n X s) {es : List E} {y : Expr} (h : mE T (.tup es) s y = true) : PE X y (tK M (ev G CL C (.tup es) false)) := by
  unfold mE at h
  split at h
  · rw [Bool.and_eq_true] at h
    refine PE.weak (pe_tup (pa_of (sV es s X _ g h.2) h.1)) fun σ H Q ⟨Z, ρ, φ, ds, ρ', e, hm, q⟩ => ?_
    unfold ev at hm
    cases q1 : evV G CL C es ρ with
    | none => rw [q1] at hm; cases hm
    | some w =>
      obtain ⟨ds1, ρ1⟩ := w
      rw [q1] at hm
      obtain ⟨hz, hm⟩ := ite_some hm
      cases hm
      exact vals_ok es e q1 fun vs Z1 H1 φ1 st e1 ra => ⟨by rw [ra.length]; exact hz, fun p hp => new_key e1 st ra q hp⟩
  · cases h
theorem key_op (g : Gd M T G CL C n X s) {a : E} {y : Expr} (h : mE T (.op .tupleL [a]) s y = true) : PE X y (tK M (ev G CL C (.op .tupleL [a]) false)) := by
  obtain ⟨x, p, a0, pos, rfl, hx, h1, h2, h3⟩ := key_call g h
  subst hx
  obtain ⟨g1, g2, g3⟩ := g.gl h1
  have ha := (sO [a] s X [a0] g h3).1
  refine PE.weak (pe_callTy (call_tuple_of (X := X)) g1 (g.blt _ (by decide)) boot_tuple (pa_cons ha pa_nil (starEach_of h2)) g3 g2 (starEach_of h2) rfl) fun σ H Q ⟨Z, ρ, φ, ds, ρ', e, hm, q⟩ => ?_
  obtain ⟨es, e1, e2⟩ := ev_op hm
  refine ops_ok (K := fun vs H2 => ∃ p ys, vs = [.ref p] ∧ ((SqL X.K H2 p ys ∧ ∀ l, H2 l = none → Q (.ref l) (upd H2 l (.tup ys))) ∨ (SqT X.K H2 p ys ∧ Q (.ref p) H2))) [a] e e1 fun vs Z1 H1 φ1 st e1' ra => ?_
  match es, evO_len e1, ra, e2 with
  | [d1], _, ra, e2 =>
    obtain ⟨v, vs, rfl, r1, rfl⟩ := ra
    obtain ⟨xs, rfl, e3⟩ := lstD_some e2
    cases e3
    obtain ⟨b, ws, rfl, h4, h5⟩ := r1.lst e1'.sub
    rw [← g.k] at h4
    exact ⟨b, ws, rfl, .inl ⟨h4, fun l hl => new_key e1' st h5 q hl⟩⟩
theorem key_pe (g : Gd M T G CL C n X s) (k : E) (y : Expr) (hf : frsh k = true) (h : mE T k s y = true) : PE X y (tK M (ev G CL C k false)) := by
  rcases frsh_or hf with ⟨es, rfl⟩ | ⟨a, rfl⟩
  · exact key_tup g h
  · exact key_op g h
theorem setI_stm (g : Gd M T G CL C n X s) {i : Nat} {k e : E} {x : Str} {y v : Expr} {p p2 pos : Pos} (hv : vis s i x = true) (hn : notLc v = true) (hy : notSlice y = true) (hk : PE X y (tM M (ev G CL C k false))) (hkk : frsh k = true → PE X y (tK M (ev G CL C k false))) (he : PE X v (tM M (ev G CL C e false))) :
    PS X (.Assign [.Subscript (.Name x p) y p2] v pos) (tS M s.fx (evS G CL W C (.setI i k e))) := by
  have hu : X.A.units + 1 < cLine := by have := g.hu; omega
  have h1 := ps_asg (pos := pos) he (pg_sub (pos := p2) (g.vis (pos := p) hv) hk set_list (by intro v; cases y <;> first | rfl | cases hy)) (by unfold swapsWithSole; exact sw_not hn) (by cases v <;> rfl)
  have h2 := ps_dput (pos := pos) (pos' := p2) hu (g.vis (pos := p) hv) hk he (sw_not hn)
  have h3 : frsh k = true → PS X (.Assign [.Subscript (.Name x p) y p2] v pos) _ := fun hf => ps_dput (pos := pos) (pos' := p2) hu (g.vis (pos := p) hv) (hkk hf) he (sw_not hn)
  have h4 : PS X (.Assign [.Subscript (.Name x p) y p2] v pos) (fun D σ H => frsh k = true ∧ _) := ⟨fun pins s σ H D I ⟨hf, h⟩ => (h3 hf).run pins s σ H D I h⟩
  refine PS.weak (PS.or h1 (PS.or h2 h4)) fun D σ H ⟨Z, ρ, φ, fl, ρ', eo, hm, q⟩ => ?_
  unfold evS at hm
  cases q1 : ev G CL C e false ρ with
  | none => rw [q1] at hm; cases hm
  | some w1 =>
  obtain ⟨o1, ρ1⟩ := w1
  rw [q1] at hm
  simp only at hm
  cases q0 : getS ρ1 i with
  | none => rw [q0] at hm; cases hm
  | some o0 =>
  rw [q0] at hm
  simp only at hm
  cases q2 : ev G CL C k false ρ1 with
  | none => rw [q2] at hm; cases hm
  | some w2 =>
  obtain ⟨o2, ρ2⟩ := w2
  rw [q2] at hm
  simp only at hm
  cases q3 : getS ρ2 i with
  | none => rw [q3] at hm; cases hm
  | some o =>
  rw [q3] at hm
  simp only at hm
  cases q4 : setO (keyOk G k) o o2.frz o1.frz with
  | none => rw [q4] at hm; cases hm
  | some o' =>
  rw [q4] at hm
  cases hm
  cases o with
  | lst xs =>
    refine .inl ?_
    unfold setO at q4
    simp only at q4
    split at q4
    · rename_i i0 hi0
      cases q5 : ixN xs.length i0 with
      | none => rw [q5] at q4; cases q4
      | some j =>
      rw [q5] at q4
      cases q4
      refine rd_then eo q1 fun w Z1 H1 φ1 st1 e1 rp1 => ?_
      obtain ⟨u, g1, g2⟩ := e1.hold i _ q0
      refine ⟨u, g1, rd_then e1 q2 fun w2 Z2 H2 φ2 st2 e2 rp2 => ?_⟩
      obtain ⟨u', g3, g4⟩ := e2.hold i _ q3
      rw [g1] at g3
      cases g3
      obtain ⟨b, vs, rfl, f3, f4, f5⟩ := g4
      rw [hi0] at rp2
      have rp2 : w2 = V.int i0 := rp2
      subst rp2
      have rp1' := Rp.mono st2.zz _ _ rp1
      obtain ⟨e3, st3⟩ := slot_write (o' := .lst (xs.set j o1.frz)) (ho := .lst (vs.set j w)) e2 q3 f3 (fun H' hH => ⟨b, _, rfl, rfl, hH, f5.set j rp1'⟩) g1
      exact ⟨b, vs, i0, j, rfl, rfl, f4, by rw [f5.length]; exact q5, q σ Z2 _ φ2 ((st1.trans st2).trans st3) e3 fun _ _ => rfl⟩
    · cases q4
  | dctK kvs =>
    refine .inr (.inl ?_)
    unfold setO at q4
    simp only at q4
    obtain ⟨hz, q4⟩ := ite_some q4
    cases q5 : key1 o2.frz with
    | none => rw [q5] at q4; cases q4
    | some κ =>
    rw [q5] at q4
    cases q4
    refine rd_then eo q1 fun w Z1 H1 φ1 st1 e1 rp1 => ?_
    obtain ⟨u, g1, g2⟩ := e1.hold i _ q0
    refine ⟨u, g1, rd_then e1 q2 fun w2 Z2 H2 φ2 st2 e2 rp2 => ?_⟩
    obtain ⟨u', g3, g4⟩ := e2.hold i _ q3
    rw [g1] at g3
    cases g3
    obtain ⟨b, vs, rfl, f3, f4, f5⟩ := g4
    have hk2 := key1_kV q5 rp2
    subst hk2
    have rp1' := Rp.mono st2.zz _ _ rp1
    obtain ⟨e3, st3⟩ := slot_write (o' := .dctK (aput kvs κ o1.frz)) (ho := .dK (putK vs κ w)) e2 q3 f3 (fun H' hH => ⟨b, _, rfl, rfl, hH, rpk_put rp1' κ f5⟩) g1
    exact ⟨b, _, rfl, DPut.k f4 (by rw [rpk_len f5]; exact hz), q σ Z2 _ φ2 ((st1.trans st2).trans st3) e3 fun _ _ => rfl⟩
  | dctT kvs =>
    unfold setO at q4
    simp only at q4
    obtain ⟨hz, q4⟩ := ite_some q4
    cases q5 : keyT o2.frz with
    | none => rw [q5] at q4; cases q4
    | some κ =>
    rw [q5] at q4
    simp only at q4
    cases q7 : keyOk G k κ with
    | false => rw [q7] at q4; cases q4
    | true =>
    rw [q7] at q4
    cases q4
    have q6 : ∃ ds, o2.frz = .tup ds ∧ keys1 ds = some κ := by
      revert q5
      generalize o2.frz = d2
      intro q5
      cases d2 with
      | tup ds => exact ⟨ds, rfl, q5⟩
      | _ => cases q5
    obtain ⟨ds, q8, q6⟩ := q6
    have q9 : o2 = .val (.tup ds) := by
      cases o2 with
      | val d => exact congrArg O.val q8
      | _ => cases q8
    subst q9
    unfold keyOk at q7
    rw [Bool.or_eq_true] at q7
    by_cases hf : frsh k = true
    · refine .inr (.inr ⟨hf, ?_⟩)
      refine rd_then eo q1 fun w Z1 H1 φ1 st1 e1 rp1 => ?_
      obtain ⟨u, g1, g2⟩ := e1.hold i _ q0
      refine ⟨u, g1, ⟨Z1, ρ1, φ1, ds, ρ2, e1, q2, fun kb xs Z2 H2 φ2 st2 e2 hb rp2 => ?_⟩⟩
      obtain ⟨u', g3, g4⟩ := e2.hold i _ q3
      rw [g1] at g3
      cases g3
      obtain ⟨b, vs, rfl, f3, f4, f5⟩ := g4
      rw [keys1_rp rp2 q6] at hb
      have rp1' := Rp.mono st2.zz _ _ rp1
      obtain ⟨e3, st3⟩ := slot_write (o' := .dctT (aput kvs κ o1.frz)) (ho := .dT (putK vs κ w)) e2 q3 f3 (fun H' hH => ⟨b, _, rfl, rfl, hH, rpt_put rp1' κ f5⟩) g1
      exact ⟨b, _, rfl, DPut.t f4 hb (by rw [rpt_len f5]; exact hz), q σ Z2 _ φ2 ((st1.trans st2).trans st3) e3 fun _ _ => rfl⟩
    · have hgk : κ ∉ M.gk := by
        have := q7.resolve_left hf
        rw [g.gk]
        rw [Bool.not_eq_true'] at this
        exact fun h => by rw [inGk_iff.mpr h] at this; cases this
      refine .inr (.inl ?_)
      refine rd_then eo q1 fun w Z1 H1 φ1 st1 e1 rp1 => ?_
      obtain ⟨u, g1, g2⟩ := e1.hold i _ q0
      refine ⟨u, g1, rd_then e1 q2 fun w2 Z2 H2 φ2 st2 e2 rp2 => ?_⟩
      obtain ⟨u', g3, g4⟩ := e2.hold i _ q3
      rw [g1] at g3
      cases g3
      obtain ⟨b, vs, rfl, f3, f4, f5⟩ := g4
      obtain ⟨kb, xs, rfl, tr, ra⟩ := (rp2 : Rp M Z2 (.tup ds) w2)
      have hb : H2 kb = some (.tup (κ.map kV)) := by
        rcases tr with tr | ⟨_, tr⟩
        · rw [← keys1_rp ra q6]; exact e2.sub _ _ tr
        · exact absurd (tr κ q6) hgk
      have rp1' := Rp.mono st2.zz _ _ rp1
      obtain ⟨e3, st3⟩ := slot_write (o' := .dctT (aput kvs κ o1.frz)) (ho := .dT (putK vs κ w)) e2 q3 f3 (fun H' hH => ⟨b, _, rfl, rfl, hH, rpt_put rp1' κ f5⟩) g1
      exact ⟨b, _, rfl, DPut.t f4 hb (by rw [rpt_len f5]; exact hz), q σ Z2 _ φ2 ((st1.trans st2).trans st3) e3 fun _ _ => rfl⟩
  | _ => cases q4
mutual
theorem sS : ∀ (ir : S) (s : Sc) (X : Cx) (st : Stmt), Gd M T G CL C n X s → mS T ir s st = true → PS X st (tS M s.fx (evS G CL W C ir))
  | .fail, s, X, st, g, h => fail_ok
  | .asg i e, s, X, st, g, h => by
    unfold mS at h
    split at h
    · rw [Bool.and_eq_true, Bool.and_eq_true] at h
      exact asg_ok g h.1.1 h.1.2 h.2
    · cases h
  | .unp is e, s, X, st, g, h => by
    unfold mS at h
    split at h
    · split at h
      · rw [Bool.and_eq_true, Bool.and_eq_true] at h
        exact par_ok g h.1.1 (sE _ s X _ g h.1.2).1 (sE _ s X _ g h.2).1
      · simp only [Bool.and_eq_true] at h
        exact unp_ok g h.1.1.1 h.1.1.2 h.1.2 (sE e s X _ g h.2).1
    · cases h
  | .setI i k e, s, X, st, g, h => by
    unfold mS at h
    split at h
    · simp only [Bool.and_eq_true] at h
      exact setI_stm g h.1.1.1.1 h.1.1.1.2 h.1.1.2 (sE k s X _ g h.1.2).1 (fun hf => key_pe g k _ hf h.1.2) (sE e s X _ g h.2).1
    · cases h
  | .mut m i es, s, X, st, g, h => by
    unfold mS at h
    split at h
    · simp only [Bool.and_eq_true, decide_eq_true_eq] at h
      obtain ⟨⟨⟨⟨h1, h2⟩, h3⟩, h4⟩, h5⟩ := h
      subst h1
      exact app_stm g h2 h3 h4 (sE _ s X _ g h5).1
    · simp only [Bool.and_eq_true, decide_eq_true_eq] at h
      obtain ⟨⟨h1, h2⟩, h3⟩ := h
      subst h1
      exact rev_stm g h2 h3
    · cases h
  | .ext i e, s, X, st, g, h => by
    unfold mS at h
    split at h
    · simp only [Bool.and_eq_true, decide_eq_true_eq] at h
      obtain ⟨⟨⟨⟨h1, h2⟩, h3⟩, h4⟩, h5⟩ := h
      subst h1
      exact ext_stm g h2 h3 h4 (sE e s X _ g h5).1
    · cases h
  | .aug i p e, s, X, st, g, h => by
    unfold mS at h
    split at h
    · simp only [Bool.and_eq_true, decide_eq_true_eq] at h
      exact aug_stm g h.1.1 h.1.2 (sE e s X _ g h.2).1
    · cases h
  | .expr e, s, X, st, g, h => by
    unfold mS at h
    split at h
    · rw [Bool.and_eq_true] at h
      exact expr_ok h.1 (sE e s X _ g h.2).1
    · cases h
  | .ret e, s, X, st, g, h => by
    unfold mS at h
    split at h
    · exact ret_ok (sE e s X _ g h).1
    · cases h
  | .retN, s, X, st, g, h => by
    unfold mS at h
    split at h
    · exact retN_ok
    · cases h
  | .pass, s, X, st, g, h => by
    unfold mS at h
    split at h
    · exact pass_ok
    · exact doc_ok h
    · cases h
  | .brk, s, X, st, g, h => by
    unfold mS at h
    split at h
    · exact brk_ok
    · cases h
  | .cont, s, X, st, g, h => by
    unfold mS at h
    split at h
    · exact cont_ok
    · cases h
  | .ite c a b, s, X, st, g, h => by
    unfold mS at h
    split at h
    · rw [Bool.and_eq_true, Bool.and_eq_true] at h
      exact if_ok (sE c s X _ g h.1.1).2 (sSs a s X _ g h.1.2) (sSs b s X _ g h.2)
    · cases h
  | .for tg k es body, s, X, st, g, h => by
    unfold mS at h
    split at h
    · simp only [Bool.and_eq_true] at h
      obtain ⟨⟨⟨h1, h2⟩, h3⟩, h4⟩ := h
      split at h1
      · rename_i xs hs
        exact for_ok g (it_ok g hs (sV es s X xs g h1)) h2 h3 (sSs body s X _ g h4)
      · cases h1
    · cases h
  | .while c body, s, X, st, g, h => by
    unfold mS at h
    split at h
    · rw [Bool.and_eq_true] at h
      exact while_ok g (sE c s X _ g h.1).2 (sSs body s X _ g h.2)
    · cases h
theorem sSs : ∀ (irs : List S) (s : Sc) (X : Cx) (sts : List Stmt), Gd M T G CL C n X s → mSs T irs s sts = true → PSs X sts (tS M s.fx (evSs G CL W C irs))
  | [], s, X, sts, g, h => by
    unfold mSs at h
    split at h
    · exact nil_ok
    · cases h
  | ir :: irs, s, X, sts, g, h => by
    unfold mSs at h
    split at h
    · cases h
    · rename_i st sts
      rw [Bool.or_eq_true] at h
      rcases h with h | h
      · split at h
        · exact failL_ok
        · cases h
      · rw [Bool.and_eq_true] at h
        exact cons_ok (sS ir s X st g h.1) (sSs irs s X sts g h.2)
end
end
end EV

set_option maxHeartbeats 4000000
namespace EV
open PyProof.Rows PySem L2 PySem.Spec
/-! ### a list comprehension whose iterable wants a token: first the turns in the block, then the block about them -/
/-- what the turns of a list comprehension keep (D: the list that is made) -/
def TurnsOk (J : It) (g : TG) (tt : TT) (te : TE) (vs : List Nat) (σ0 : L2.St) (D : Addr) (Done : Hp → Prop) (Wn : Nat → Nat → Hp → Prop) : Prop :=
  ∀ (i m : Nat) (H : Hp), Wn i m H → (J.stop i H ∧ Done H) ∨ (J.go i H ∧ ∃ After : Hp → Prop, (∀ H1, After H1 → ∃ m1, m1 < m ∧ Wn (i + 1) m1 H1) ∧
    ∀ (x : V) (H1 : Hp), J.yld i H x H1 → g x σ0 H1 fun σ2 H2 => L2.wipe σ2 vs = σ0 ∧ tt σ2 H2 fun b H3 =>
      if b = true then te σ2 H3 fun y H4 => ∃ acc, H4 D = some (.lst acc) ∧ acc.length < sizeLine ∧ After (upd H4 D (.lst (acc ++ [y]))) else After H3)
section
variable {B : Cx} {tg elt iter : Expr} {ifs : List Expr} {scope : Scope} {pos : Pos} {it D : Addr} {fp : List Addr} {tn : Nat → Heap → Prop} {J : It} {g : TG} {tt : TT} {te : TE} {vs : List Nat} {σ0 : L2.St} {Done : Hp → Prop} {Wn : Nat → Nat → Hp → Prop} {Fin : Result → Shared → Prop}
/-- a block's state ahead of turn i -/
def AtTurn (B : Cx) (fp : List Addr) (tn : Nat → Heap → Prop) (σ0 : L2.St) (Wn : Nat → Nat → Hp → Prop) (n : Nat) (s : Shared) : Prop :=
  ∃ (i : Nat) (H : Hp), Inv B [] σ0 H s ∧ tn i s.heap ∧ (∀ a, a ∈ fp → H a = none) ∧ Wn i n H
theorem ghosts (hex : B.ex = fp) (hpn : B.pn = []) {σ1 : L2.St} {H : Hp} {s : Shared} (I : Inv B [] σ1 H s) (hz : ∀ a, a ∈ fp → H a = none) : ∀ a, a ∈ fp → FpOk B [] H a := by
  intro a ha
  have hb : a ∈ B.ex := by rw [hex]; exact ha
  refine ⟨hz a ha, (I.ok.exf a hb).1, I.ok.exfs a hb, Or.inl hb, fun x c q => (I.ok.exf a hb).2 x c q, fun p hp => ?_⟩
  rw [hpn] at hp
  cases hp
/-- behind a turn the block stands ahead of the next one -/
theorem next_turn {s s1 : Shared} {i n : Nat} {H : Hp} {σ2 : L2.St} {After : Hp → Prop} (T : Turn B.prog B.w B.K tg J fp it tn) (t1 : tn (i + 1) s.heap) (hw : L2.wipe σ2 vs = σ0) (goes : ∀ H1, After H1 → ∃ m1, m1 < n ∧ Wn (i + 1) m1 H1)
    (I : Inv B ([] ++ pinsAt fp s.heap) σ2 H s1) (a : After H) : ∃ m, m < n ∧ AtTurn B fp tn σ0 Wn m s1 := by
  obtain ⟨m1, lt, w1⟩ := goes H a
  have held : ∀ b, b ∈ fp → ∀ o, s.heap.get? b = some o → s1.heap.get? b = some o ∧ H b = none := by
    intro b hb o ho
    obtain ⟨p1, p2, _⟩ := I.pin (b, o) (List.mem_append.mpr (.inr (List.mem_append.mpr (.inr (mem_pinsAt hb ho)))))
    exact ⟨p1, p2⟩
  subst hw
  refine ⟨m1, lt, i + 1, H, Inv.weak (I.unpinned (pins := [])) (wipe_length σ2 vs) (fun j v q => (wipe_some q).1), T.keep (i + 1) s.heap s1.heap t1 fun b hb o ho => (held b hb o ho).1, fun b hb => ?_, w1⟩
  obtain ⟨o, ho, _⟩ := T.obj (i + 1) s.heap t1 b hb
  exact (held b hb o ho).2
theorem turns_run (hcalm : B.calm = true) (hxe : B.xe = fun _ _ => False) (hex : B.ex = fp) (hpn : B.pn = []) (T : Turn B.prog B.w B.K tg J fp it tn) (pg : PG B tg g) (pt : PTs B ifs tt) (pe : PE B elt te) (ok : TurnsOk J g tt te vs σ0 D Done Wn)
    (fin : ∀ (s : Shared) (H : Hp), Inv B [] σ0 H s → Done H → Fin (.ok .next) s) {n : Nat} {s : Shared} (h : AtTurn B fp tn σ0 Wn n s) :
    codeAny (model B.prog B.w) B.A (.compLoop (.ListComp elt [⟨tg, iter, ifs, 0⟩] scope pos) 0 (.ref it) (.ref D) B.env) Fin s := by
  have lift : ∀ {α : Type} {t : Sem α} {Q Q' : α → Shared → Prop} {E : Value → Shared → Prop} {s : Shared}, wpAny (model B.prog B.w) B.A t Q B.xe s → (∀ a s, Q a s → Q' a s) → wpAny (model B.prog B.w) B.A t Q' E s :=
    fun a b => wpAny_mono a b fun e s z => by rw [hxe] at z; exact z.elim
  refine compLoop_any (AtTurn B fp tn σ0 Wn) (fun n1 s1 ⟨i, H, I, t0, hz, w0⟩ => ?_) n h
  rcases ok i n1 H w0 with ⟨stop, dn⟩ | ⟨go, After, goes, does⟩
  · refine thn (T.done B rfl rfl rfl hcalm i [] s1 σ0 H _ I (ghosts hex hpn I hz) t0 stop) fun r s2 hr => ?_
    obtain ⟨rfl, I2⟩ := hr
    exact fin s2 H I2 dn
  · refine thn (T.item B rfl rfl rfl hcalm i [] s1 σ0 H _ I (ghosts hex hpn I hz) t0 go) fun r s2 hr => ?_
    obtain ⟨u, rfl, hu⟩ := hr
    refine thn hu fun _ s3 ⟨x, H3, I3, rx, yx, t3, z3⟩ => ?_
    have P3 := Inv.pinned I3 (ghosts hex hpn I3 z3) (T.obj (i + 1) s3.heap t3)
    refine lift (pg.run _ s3 σ0 H3 x u _ P3 rx (does x H3 yx)) fun _ s4 ⟨σ4, H4, I4, hw, q4⟩ => ?_
    refine lift (pt.run _ s4 σ4 H4 _ I4 q4) fun b s5 ⟨H5, I5, q5⟩ => ?_
    cases b with
    | true =>
      simp only [if_true] at q5 ⊢
      refine lift (pe.run _ s5 σ4 H5 _ I5 q5) fun y s6 ⟨vy, H6, I6, ry, acc, hD, hl, aft⟩ => ?_
      exact app_ok I6 hD hl ry fun s7 I7 => next_turn T t3 hw goes I7 aft
    | false =>
      simp only [Bool.false_eq_true, if_false] at q5 ⊢
      exact next_turn T t3 hw goes I5 q5
end
section
variable {X : Cx}
theorem pet_lcT {elt tg iter : Expr} {ifs : List Expr} {scope : Scope} {own : List (Str × Nat)} {pos : Pos} {wi : TI} {g : TG} {tt : TT} {te : TE} (calm : X.calm = true) (nd : X.N.Nodup) (hi : PIT X tg iter wi) (ok : BlkOk X.N X.env.scope scope own)
    (pg : ∀ (s0 : Shared) (H : Hp) (Cd : Addr) (cl : List (Str × Addr)) (fp : List Addr), PG (X.blk s0 H scope (compEnvC scope cl Cd X.env) fp) tg g)
    (pt : ∀ (s0 : Shared) (H : Hp) (Cd : Addr) (cl : List (Str × Addr)) (fp : List Addr), PTs (X.blk s0 H scope (compEnvC scope cl Cd X.env) fp) ifs tt)
    (pe : ∀ (s0 : Shared) (H : Hp) (Cd : Addr) (cl : List (Str × Addr)) (fp : List Addr), PE (X.blk s0 H scope (compEnvC scope cl Cd X.env) fp) elt te)
    (hs : ∀ x, foldedSetIterable iter X.env x = pure x) : PET X (.ListComp elt [⟨tg, iter, ifs, 0⟩] scope pos) (tLc wi g tt te (own.map (·.2))) := by
  intro pins s σ H Q tok I h
  have outer : ∀ y, y ∈ scope.names → y.2 = .free → ∃ c, X.env.cells.lookup y.1 = some c := fun y hy hf => I.ok.has y.1 ((ok.free y hy hf).imp id id)
  rw [eval_ListComp]
  refine wpAny_comprehension_free (use := none) rfl hs (closure_ok outer) ok.kind (fun y hy hl => (ok.uniq y hy).trans (congrArg some hl)) ?_
  refine thn (hi pins s σ H _ tok I h) fun v s1 hv => thn hv fun w s2 hw => ?_
  obtain ⟨it, fp, tn, J, H2, rfl, I2, T, t2, f2, turns⟩ := hw
  -- the new list, at the heap's end
  have fresh : H2 s2.heap.objs.size = none := I2.hok.fresh (Nat.le_refl _)
  obtain ⟨Wn, ⟨m, w0⟩, step⟩ := turns _ fresh
  refine wpAny_newObj_type (newEnv_comp ?_) (Nat.zero_le _)
  have old : ∀ b, b ∈ fp → b < s2.heap.objs.size := fun b hb => (T.obj 0 s2.heap t2 b hb).elim fun o ho => Heap.lt_size ho.1
  have I3 : Inv X pins σ (upd H2 s2.heap.objs.size (.lst [])) { s2 with heap := s2.heap.push { cls := .type "list", data := .seq ([] : List Value).toArray } } :=
    I2.laid (t' := s2.toks) (fun _ _ q => Heap.get?_push_of_some _ q) (Nat.le_refl _) ⟨Nat.zero_le _, [], 0, Paired.nil, Heap.get?_push_size _ rfl⟩
  have t3 : tn 0 (s2.heap.push { cls := .type "list", data := .seq ([] : List Value).toArray }) := T.keep 0 s2.heap _ t2 fun _ _ _ q => Heap.get?_push_of_some _ q
  have f3 : ∀ b, b ∈ fp → FpOk X pins (upd H2 s2.heap.objs.size (.lst [])) b := fun b hb => by
    refine ⟨?_, (f2 b hb).2⟩
    rw [upd_ne (Nat.ne_of_lt (old b hb))]
    exact (f2 b hb).1
  generalize hD : s2.heap.objs.size = D at I3 f3 w0 step ⊢
  generalize hs3 : ({ s2 with heap := s2.heap.push { cls := .type "list", data := .seq ([] : List Value).toArray } } : Shared) = s3 at I3 ⊢
  have hh3 : s3.heap = s2.heap.push { cls := .type "list", data := .seq ([] : List Value).toArray } := by rw [← hs3]
  rw [← hh3] at t3
  generalize hH3 : upd H2 D (.lst []) = H3 at I3 f3 w0
  have I4 := block_start I3 ok nd fun b hb => ⟨f3 b hb, by rw [hh3, Heap.size_push]; exact Nat.lt_succ_of_lt (old b hb)⟩
  have t4 : tn 0 (pushCells (s3.heap.push { cls := .type "dict", data := .dict #[] }) scope.names) := T.keep 0 s3.heap _ t3 fun _ _ _ q => pushCells_keeps _ _ _ _ (Heap.get?_push_of_some _ q)
  refine codeAny_compStart_list (it := .ref it) ?_ (T.self X.A 0 _ _ _ t4 ?_)
  all_goals
    refine turns_run (B := X.blk s3 H3 scope (compEnvC scope (cellsFrom (s3.heap.objs.size + 1) scope.names (cloFrom X.env.cells scope.names [])) s3.heap.objs.size X.env) fp) (Done := Q (.ref D)) (Wn := Wn) (D := D) (vs := own.map fun z : Str × Nat => z.2) (σ0 := L2.wipe σ (own.map fun z : Str × Nat => z.2))
      calm rfl rfl rfl T (pg _ _ _ _ _) (pt _ _ _ _ _) (pe _ _ _ _ _) step (fun s5 H5 I5 dn => ?_) ⟨0, H3, I4, t4, fun b hb => (f3 b hb).1, w0⟩
    -- the block is left
    obtain ⟨ns, hns, _⟩ := I5.loc
    have nl : H5 s3.heap.objs.size = none := I5.free
    have back : Inv X pins σ H5 s5 := by
      refine I3.call' (ch := fp) I5.os I5.base I5.hok I5.bare fun b hb => ?_
      obtain ⟨_, g1, _, g3, g4, g5⟩ := f3 b hb
      exact ⟨g3, g1, g4, g5⟩
    obtain ⟨z0, z1, z2, z3, z4, z5⟩ := I3.fpOk (Nat.le_refl _) nl
    refine ⟨ns, hns, fun h6 sb => ?_⟩
    exact ⟨.ref D, H5, back.turned (t' := s5.toks) (fun b o ne q => (sb.2 b ne).trans q) z0 z1 z3 z4 z5, rfl, dn⟩
end
/-! ### [word for word in text.replace(a, b).split(c) if word != d] -/
def isWords : List S → Bool
  | [.ret (.comp (.one 1) .plain [.mop .split (.op .replace [.var 0, .lit (.str a), .lit (.str b)]) [.lit (.str c)]] [.op .ne [.var 1, .lit (.str d)]] (.var 1))] => decide (a = "\n") && decide (b = " ") && decide (c = " ") && decide (d = "")
  | _ => false
theorem isWords_eq {l : List S} (h : isWords l = true) : l = [.ret wordsE] := by
  unfold isWords at h
  split at h
  · simp only [Bool.and_eq_true, decide_eq_true_eq] at h
    obtain ⟨⟨⟨rfl, rfl⟩, rfl⟩, rfl⟩ := h
    rfl
  · cases h
def wordsB (T : Stat) (s : Sc) : List Stmt → Bool
  | [.Return (some (.ListComp elt [⟨tgt, .Call (.Attribute (.Call (.Attribute o r apos) [.Constant (.str y) _j1 _c1, .Constant (.str z) _j2 _c2] [] cpos) sp apos2) [.Constant (.str y2) _j3 _c3] [] cpos2, ifs, n⟩] scope _lp)) _rp] =>
    decide (r = "replace") && (apos.endLine == cpos.line) && decide (sp = "split") && (apos2.endLine == cpos2.line) && decide (y = "\n") && decide (z = " ") && decide (y2 = " ") && okBase o && (n == 0) && mE T (.var 0) s o &&
      blkC s.N s.sc scope ((tgNames tgt).zip [1]) && mTg (blkSc s scope) (.one 1) tgt && mEs T [.op .ne [.var 1, .lit (.str "")]] (blkSc s scope) ifs && mE T (.var 1) (blkSc s scope) elt && s.sc.names.all (fun y => match y.2 with | .cell => false | _ => true)
  | _ => false
section
variable {X : Cx}
theorem PIT.weak {tg it : Expr} {wi wi' : TI} (h : PIT X tg it wi) (w : ∀ σ H R, wi' σ H R → wi σ H R) : PIT X tg it wi' := fun pins s σ H R h0 I q => h pins s σ H R h0 I (w σ H R q)
theorem PET.weak {e : Expr} {t t' : TE} (h : PET X e t) (w : ∀ σ H Q, t' σ H Q → t σ H Q) : PET X e t' := fun pins s σ H Q h0 I q => h pins s σ H Q h0 I (w σ H Q q)
theorem PSsT.weak {l : List Stmt} {t t' : TS} (h : PSsT X l t) (w : ∀ D σ H, t' D σ H → t D σ H) : PSsT X l t' := fun pins s σ H D h0 I q => h pins s σ H D h0 I (w D σ H q)
theorem PSsT.nox {l : List Stmt} {t : TS} (h : PSsT X.nox l t) : PSsT X l t := fun pins s σ H D h0 I q =>
  wpAny_mono (h pins s σ H D h0 (I.wish _) q) (fun _ _ z => z.unwish) fun _ _ z => False.elim z
theorem pet_splitC {o : Expr} {to : TE} {y : Str} {j : Nat} {c0 apos pos : Pos} (ho : PET X o to) (hst : starEach [.Constant (.str y) j c0] X.env = [(false, eval (.Constant (.str y) j c0) X.env)])
    (hbase : attributeBase o "split" X.env (eval o X.env) = eval o X.env) (hline : (apos.endLine == pos.line) = true) :
    PET X (.Call (.Attribute o "split" apos) [.Constant (.str y) j c0] [] pos) (fun σ H Q => to σ H fun v H1 => ∃ a, v = .str a ∧ (y.length == 0) = false ∧ a.length + 2 ≤ sizeLine ∧ rNewStrs (Txt.split a y) H1 Q) := by
  intro pins s σ H Q h0 I h
  refine PySem.Call_method1 hbase hst hline (thn (ho pins s σ H _ h0 I h) fun v s1 q => ?_)
  obtain ⟨v', H1, I1, r1, a, rfl, hy, ha, q⟩ := q
  obtain ⟨tx, rfl⟩ := r1
  refine ⟨"str", _, PySem.F.plainAttrs_str, PySem.F.slot_str_split, PySem.F.type_str_split, typeIs_str _ _ _, (fun _ e => nomatch e), Calls.callWith_builtin rfl (Calls.evalArgs_plain (Calls.spliced_cons (Calls.Constant_str (Calls.spliced_nil ?_))))⟩
  exact mt_split pins _ σ H1 (.str a) [.str y] _ _ Q (I1.tok _) ⟨_, rfl⟩ (.cons ⟨_, rfl⟩ .nil) ⟨a, y, rfl, rfl, hy, ha, q⟩
end
section
variable {M : Mt} {T : Stat} {G : List D} {CL : List (List Nat)} {C : CallF} {W n : Nat} {X : Cx} {s : Sc}
theorem ev_wSplit {ρ ρ' : Env} {o : O} (he : ev G CL C wSplit false ρ = some (o, ρ')) : ∃ a, getS ρ 0 = some (.val (.str a)) ∧ (a.length + (a.length + 1) * (" " : Str).length ≤ 16777216) ∧ (((" " : Str).length == 0) = false ∧ (Txt.replace a "\n" " ").length + 2 ≤ sizeLine) ∧
    o = .lst ((Txt.split (Txt.replace a "\n" " ") " ").map .str) ∧ ρ' = ρ := by
  unfold wSplit at he
  unfold ev at he
  simp only [ev, evO, post] at he
  cases q0 : getS ρ 0 with
  | none => simp [q0] at he
  | some d0 =>
    cases d0 with
    | val d =>
      cases d with
      | str a =>
        simp only [q0, O.frz] at he
        have er : prim .replace [.str a, .str "\n", .str " "] = if (("\n" : Str) == (" " : Str)) = false ∧ a.length + (a.length + 1) * (" " : Str).length ≤ 16777216 then some (.val (.str (Txt.replace a "\n" " "))) else none := rfl
        rw [er] at he
        by_cases hl : (("\n" : Str) == (" " : Str)) = false ∧ a.length + (a.length + 1) * (" " : Str).length ≤ 16777216
        · rw [if_pos hl] at he
          simp only [rcv, O.frz] at he
          have es : prim .split [.str (Txt.replace a "\n" " "), .str " "] = if ((" " : Str).length == 0) = false ∧ (Txt.replace a "\n" " ").length + 2 ≤ sizeLine then some (.lst ((Txt.split (Txt.replace a "\n" " ") " ").map .str)) else none := rfl
          rw [es] at he
          by_cases hl2 : ((" " : Str).length == 0) = false ∧ (Txt.replace a "\n" " ").length + 2 ≤ sizeLine
          · rw [if_pos hl2] at he
            simp only [Option.some.injEq, Prod.mk.injEq] at he
            exact ⟨a, rfl, hl.2, hl2, he.1.symm, he.2.symm⟩
          · rw [if_neg hl2] at he; cases he
        · rw [if_neg hl] at he; cases he
      | _ => simp [q0, prim, str1, O.frz] at he
    | _ => simp [q0] at he
theorem words_pet (g : Gd M T G CL C n X s) {o : Expr} {j1 j2 j3 : Nat} {c1 c2 c3 apos cpos apos2 cpos2 : Pos} (hb : okBase o = true) (h1 : (apos.endLine == cpos.line) = true) (h2 : (apos2.endLine == cpos2.line) = true) (hm : mE T (.var 0) s o = true) :
    PET X (.Call (.Attribute (.Call (.Attribute o "replace" apos) [.Constant (.str "\n") j1 c1, .Constant (.str " ") j2 c2] [] cpos) "split" apos2) [.Constant (.str " ") j3 c3] [] cpos2) (tM M (ev G CL C wSplit false)) := by
  refine PET.weak (pet_splitC (CwR.pet_replC (sE (.var 0) s X o g hm).1 (by decide) rfl (base_ok hb) h1) rfl (base_ok (by rfl)) h2) fun σ H Q ⟨Z, ρ, φ, o', ρ', e, he, q⟩ => ?_
  obtain ⟨a, q0, hl, hl2, rfl, rfl⟩ := ev_wSplit he
  refine rd_then e (show ev G CL C (.var 0) false ρ' = some (.val (.str a), ρ') by simp only [ev, q0, post]) fun v Z1 H1 φ1 st1 e1 r1 => ?_
  refine ⟨a, r1, hl, _, rfl, hl2.1, hl2.2, fun p hp => ?_⟩
  exact new_lst e1.sub (q.cont st1 e1) (.ofStrs _) hp
theorem words_ok (g : Gd M T G CL C n X s) {sts : List Stmt} (h : wordsB T s sts = true) : PSsT X sts (tS M s.fx (evSs G CL W C [.ret wordsE])) := by
  unfold wordsB at h
  split at h
  · rename_i elt tgt o r apos y j1 c1 z j2 c2 cpos sp apos2 y2 j3 c3 cpos2 ifs n0 scope lpos rpos
    simp only [Bool.and_eq_true, decide_eq_true_eq, beq_iff_eq] at h
    obtain ⟨⟨⟨⟨⟨⟨⟨⟨⟨⟨⟨⟨⟨⟨rfl, a1⟩, rfl⟩, a2⟩, rfl⟩, rfl⟩, rfl⟩, a3⟩, rfl⟩, a4⟩, a5⟩, a6⟩, a7⟩, a8⟩, a9⟩ := h
    have hp := words_pet (j1 := j1) (j2 := j2) (j3 := j3) (c1 := c1) (c2 := c2) (c3 := c3) (apos := apos) (cpos := cpos) (apos2 := apos2) (cpos2 := cpos2) g a3 (by simpa using a1) (by simpa using a2) a4
    have hi : PIT X tgt _ (tI M G CL C .plain [wSplit]) := PIT.weak (pit_list hp) fun σ H R ⟨Z, ρ, φ, ds, ρ', xs, e, h1, h2, q⟩ => by
      unfold evV evV at h1
      cases q1 : ev G CL C wSplit false ρ with
      | none => rw [q1] at h1; cases h1
      | some w =>
        obtain ⟨o1, ρ1⟩ := w
        rw [q1] at h1
        simp only [Option.some.injEq, Prod.mk.injEq] at h1
        obtain ⟨rfl, rfl⟩ := h1
        obtain ⟨a0, _, _, _, rfl, _⟩ := ev_wSplit q1
        generalize Txt.split (Txt.replace a0 "\n" " ") " " = ys at q1 q h2
        refine rd_then e q1 fun v Z1 H1 φ1 st1 e1 r1 => ?_
        have h2 : some (ys.map D.str) = some xs := h2
        cases h2
        obtain ⟨a, vs, rfl, r2, r3⟩ := r1
        exact ⟨a, rfl, ⟨vs, by rw [g.k]; exact e1.sub.sl r2⟩, by rw [g.k]; exact q _ Z1 H1 φ1 st1 e1 (itd_list r2 r3)⟩
    have hc : ∀ (s0 : Shared) (H : Hp) (Cd : Addr) (cl : List (Str × Addr)) (fp : List Addr), PTs (X.blk s0 H scope (compEnvC scope cl Cd X.env) fp) ifs (fun σ H Q => ∃ Z ρ φ b ρ', EOk M Z H σ ρ φ ∧ evC G CL C [.op .ne [.var 1, .lit (.str "")]] ρ = some (b, ρ') ∧ ∀ Z' H' φ', Stp Z H (Own ρ φ) Z' H' (Own ρ' φ') → EOk M Z' H' σ ρ' φ' → Q b H') := by
      intro s0 H Cd cl fp
      match ifs, a7 with
      | [x], a7 =>
        unfold mEs at a7
        rw [Bool.and_eq_true] at a7
        have hq := (sE (.op .ne [.var 1, .lit (.str "")]) (blkSc s scope) _ x (g.blk (s0 := s0) (H := H) (Cd := Cd) (cl := cl) (fp := fp)) a7.1).2
        refine ⟨fun pins s σ H Q I ⟨Z, ρ, φ, b, ρ', e, hm, q⟩ => (pts_one hq).run pins s σ H Q I ⟨Z, ρ, φ, b, ρ', e, ?_, q⟩⟩
        unfold evC at hm
        split at hm
        · rename_i h1
          simp only at hm
          cases hm
          exact h1
        · cases hm
      | [], a7 => cases a7
      | _ :: _ :: _, a7 => simp [mEs] at a7
    obtain ⟨wi, gg, tt, te, vs, w1, rfl, w3, w4, w5, w6, w7, w8⟩ := comp_ok (pos := lpos) (iter := .Call (.Attribute (.Call (.Attribute o "replace" apos) [.Constant (.str "\n") j1 c1, .Constant (.str " ") j2 c2] [] cpos) "split" apos2) [.Constant (.str " ") j3 c3] [] cpos2) (PP := PIT X tgt _) g hi rfl a5 a6 hc fun s0 H Cd cl fp => (sE (.var 1) (blkSc s scope) _ elt g.blk a8).1
    have hl : PET X (.ListComp elt [⟨tgt, _, ifs, 0⟩] scope lpos) (tM M (ev G CL C wordsE false)) := PET.weak (pet_lcT g.calm g.nd w3 w4 w5 w6 w7 w8) w1
    refine PSsT.weak (CwR.psst_one (CwR.pst_ret (pos := rpos) hl)) fun D σ H ⟨Z, ρ, φ, fl, ρ', eo, hm, q⟩ => ?_
    unfold evSs evS at hm
    cases q1 : ev G CL C wordsE false ρ with
    | none => rw [q1] at hm; cases hm
    | some w =>
      obtain ⟨o1, ρ1⟩ := w
      rw [q1] at hm
      cases hm
      exact ⟨Z, ρ, φ, o1, _, eo, q1, fun v Z1 H1 φ1 f st e1 r hf => q v σ Z1 H1 φ1 f st e1 r hf fun _ _ => rfl⟩
  · cases h
end
theorem wordsB_cell {T : Stat} {s : Sc} {l : List Stmt} (h : wordsB T s l = true) : ∀ y ∈ s.sc.names, y.2 ≠ .cell := by
  unfold wordsB at h
  split at h
  · simp only [Bool.and_eq_true] at h
    intro y hy hc
    have := List.all_eq_true.mp h.2 y hy
    rw [hc] at this
    cases this
  · cases h
/-- a def whose body wants a token -/
theorem fun_okT {P : Program} {w : World} {K : PySem.W.Frag} {mg : Str → Option Value} {base : Heap} {x qual : Str} {st : Stmt} {f : Addr} {fd : FuncData} {N ps : List Str} {k : Nat} {sp : Sp} (F : L2.Fun K x qual st f fd) (S : FnScope N ps (defScope st))
    (nocell : ∀ y ∈ (defScope st).names, y.2 ≠ .cell) (one : 1 ≤ ps.length) (len : ∀ vs H Q E, sp vs H Q E → vs.length = ps.length)
    (run : ∀ (cdv : Value) (A : Around) (outer : List PySem.Env) (s : Shared) (H : Hp) (vs : List V) (Q : VK) (E : XK), Room k (A.deeper (envOfC qual (defScope st) s.heap.objs.size f cdv)) → sp vs H Q E →
      ∃ t, PSsT (cxOf CX0 P w K mg base N qual (defScope st) f cdv A outer s H E).nox (defBody st) t ∧ t { nx := fun _ H' => Q .non H', rt := Q } (start N vs) H) : FnOk P w K mg base CX0 (k + 1) f fd ps sp := by
  obtain ⟨_, _, _, _, _, _, cdv, _, _, rfl, lk, hcd⟩ := F.ex
  exact fn_ofT lk hcd S nocell one len fun A outer s H vs Q E hr hsp => (run cdv A outer s H vs Q E hr hsp).imp fun t z => ⟨PSsT.nox z.1, z.2⟩
end EV

namespace EV
open PyProof.Rows PySem L2 PySem.Spec
theorem getS_nones : ∀ (k i : Nat), getS (List.replicate k none) i = none
  | 0, _ => rfl
  | k + 1, 0 => rfl
  | k + 1, i + 1 => getS_nones k i
theorem getS_pad : ∀ (ρ : Env) (k i : Nat), getS (ρ ++ List.replicate k none) i = getS ρ i
  | [], k, i => getS_nones k i
  | x :: r, k, 0 => rfl
  | x :: r, k, i + 1 => getS_pad r k i
theorem headS_len : ∀ (ρ : Env) (n : Nat), (headS ρ n).length = n
  | _, 0 => by unfold headS; rfl
  | [], n + 1 => by unfold headS; simp [headS_len [] n]
  | x :: r, n + 1 => by unfold headS; simp [headS_len r n]
theorem headS_get : ∀ (ρ : Env) (n i : Nat) (o : O), getS (headS ρ n) i = some o → getS ρ i = some o
  | _, 0, _, _, h => by unfold headS at h; cases h
  | [], n + 1, 0, _, h => by unfold headS at h; cases h
  | [], n + 1, i + 1, o, h => by
    unfold headS at h
    have h : getS (headS [] n) i = some o := h
    have := headS_get [] n i o h
    cases this
  | x :: r, n + 1, 0, _, h => by unfold headS at h; exact h
  | x :: r, n + 1, i + 1, o, h => by
    unfold headS at h
    have h : getS (headS r n) i = some o := h
    exact headS_get r n i o h
theorem maskR_get : ∀ (bs : List Bool) (ps : Env) (i : Nat) (o : O), getS (maskR bs ps) i = some o → bs[i]? = some true ∧ getS ps i = some o
  | [], _, _, _, h => by unfold maskR at h; cases h
  | true :: bs, [], _, _, h => by unfold maskR at h; cases h
  | false :: bs, [], _, _, h => by unfold maskR at h; cases h
  | true :: bs, p :: ps, 0, _, h => by unfold maskR at h; exact ⟨rfl, h⟩
  | false :: bs, p :: ps, 0, _, h => by unfold maskR at h; cases h
  | true :: bs, p :: ps, i + 1, o, h => by
    unfold maskR at h
    have h : getS (maskR bs ps) i = some o := h
    have := maskR_get bs ps i o h
    exact ⟨by simpa using this.1, this.2⟩
  | false :: bs, p :: ps, i + 1, o, h => by
    unfold maskR at h
    have h : getS (maskR bs ps) i = some o := h
    have := maskR_get bs ps i o h
    exact ⟨by simpa using this.1, this.2⟩
theorem maskR_len : ∀ (bs : List Bool) (ps : Env), ps.length = bs.length → (maskR bs ps).length = bs.length
  | [], [], _ => rfl
  | [], _ :: _, h => by simp at h
  | _ :: _, [], h => by simp at h
  | true :: bs, p :: ps, h => by unfold maskR; simp [maskR_len bs ps (by simpa using h)]
  | false :: bs, p :: ps, h => by unfold maskR; simp [maskR_len bs ps (by simpa using h)]
/-- the parameters that are never assigned -/
def fxs : Nat → List Bool → List Nat
  | _, [] => []
  | i, true :: r => i :: fxs (i + 1) r
  | i, false :: r => fxs (i + 1) r
theorem fxs_mem : ∀ (bs : List Bool) (k i : Nat), bs[i]? = some true → k + i ∈ fxs k bs
  | [], _, _, h => by simp at h
  | true :: bs, k, 0, _ => by unfold fxs; simp
  | false :: bs, k, 0, h => by simp at h
  | true :: bs, k, i + 1, h => by
    unfold fxs
    have := fxs_mem bs (k + 1) i (by simpa using h)
    rw [show k + (i + 1) = k + 1 + i by omega]
    simp [this]
  | false :: bs, k, i + 1, h => by
    unfold fxs
    have := fxs_mem bs (k + 1) i (by simpa using h)
    rw [show k + (i + 1) = k + 1 + i by omega]
    exact this
theorem Stp.more {Z H Z' H' : Hp} {P P' R : Addr → Prop} (a : Stp Z H P Z' H' R) (h : ∀ x, P x → P' x) : Stp Z H P' Z' H' R :=
  ⟨a.zz, fun x o q n => a.ch x o q fun z => n (h x z), a.al, fun x q => (a.zn x q).imp_right (·.imp_left (h x)), fun x q => (a.ow x q).imp_left (h x)⟩
section
variable {M : Mt} {Z H : Hp} {φ : Nat → List Addr}
theorem EOk.start {N : Nat} {vs : List V} {os : List O} (hl : vs.length = os.length) (e : EOk M Z H (vs.map some) (os.map some) φ) : EOk M Z H (vs.map some ++ List.replicate (N - vs.length) none) (startS N os) φ := by
  unfold startS
  have hg : ∀ i o, getS (os.map some ++ List.replicate (N - os.length) none) i = some o → getS (os.map some) i = some o := fun i o h => by rw [getS_pad] at h; exact h
  refine ⟨e.sub, by simp [hl], fun i o h => ?_, fun a ⟨i, o, h, m⟩ => e.out a ⟨i, o, hg i o h, m⟩, fun i j o u a h1 h2 => e.dis i j o u a (hg i o h1) (hg j u h2)⟩
  obtain ⟨v, h1, h2⟩ := e.hold i o (hg i o h)
  refine ⟨v, ?_, h2⟩
  rw [List.getElem?_append_left (List.getElem?_eq_some_iff.mp h1).1]
  exact h1
theorem own_start {N : Nat} {os : List O} {a : Addr} (x : Own (startS N os) φ a) : Own (os.map some) φ a := by
  obtain ⟨i, o, h, m⟩ := x
  unfold startS at h
  rw [getS_pad] at h
  exact ⟨i, o, h, m⟩
theorem EOk.back {σ : L2.St} {ρ : Env} {refs : List Bool} {vs : List V} {k : Nat} (e : EOk M Z H σ ρ φ) (hl : vs.length = refs.length) (hx : ∀ i, i ∈ fxs 0 refs → σ[i]? = (vs.map some ++ List.replicate k none)[i]?) : EOk M Z H (vs.map some) (maskR refs (headS ρ refs.length)) φ := by
  have hg : ∀ i o, getS (maskR refs (headS ρ refs.length)) i = some o → refs[i]? = some true ∧ getS ρ i = some o := fun i o h => by
    obtain ⟨h1, h2⟩ := maskR_get _ _ _ _ h
    exact ⟨h1, headS_get _ _ _ _ h2⟩
  refine ⟨e.sub, by rw [maskR_len _ _ (headS_len _ _), List.length_map, hl], fun i o h => ?_, fun a ⟨i, o, h, m⟩ => e.out a ⟨i, o, (hg i o h).2, m⟩, fun i j o u a h1 h2 => e.dis i j o u a (hg i o h1).2 (hg j u h2).2⟩
  obtain ⟨h1, h2⟩ := hg i o h
  obtain ⟨v, g1, g2⟩ := e.hold i o h2
  refine ⟨v, ?_, g2⟩
  have hi : i < refs.length := (List.getElem?_eq_some_iff.mp h1).1
  have := hx i (by simpa using fxs_mem refs 0 i h1)
  rw [List.getElem?_append_left (by rw [List.length_map, hl]; exact hi)] at this
  rw [← this]
  exact g1
theorem own_back {ρ : Env} {refs : List Bool} {n : Nat} {a : Addr} (x : Own (maskR refs (headS ρ n)) φ a) : Own ρ φ a := by
  obtain ⟨i, o, h, m⟩ := x
  obtain ⟨h1, h2⟩ := maskR_get _ _ _ _ h
  exact ⟨i, o, headS_get _ _ _ _ h2, m⟩
end

/-! ### the defs -/
structure FnIn (M : Mt) (T : Stat) (B : Tab) (K : PySem.W.Frag) (mg : Str → Option Value) (f : Nat) (F : FnS) (fa : Addr) (fd : FuncData) : Prop where
  ex : ∃ (x qual : Str) (st : Stmt) (N : List Str) (body : List S), L2.Fun K x qual st fa fd ∧ FnScope N F.ps (defScope st) ∧ B.fns[f]? = some ⟨F.ps.length, N.length, if F.meth = true then some F.cls else none, body⟩ ∧
    (mSs T body ⟨N, defScope st, fun _ => true, fxs 0 F.refs⟩ (defBody st) = true ∨ (1 ≤ F.ps.length ∧ isWords body = true ∧ wordsB T ⟨N, defScope st, fun _ => true, fxs 0 F.refs⟩ (defBody st) = true))
  bnd : ∀ us : List Value, us.length = F.ps.length → bindArgs fd ⟨us, []⟩ = pure (F.ps.zip us)
  rl : F.refs.length = F.ps.length
  mgf : F.meth = false → mg F.nm = some (.ref fa)
  mt : F.meth = true → Meth K (M.cl F.cls) F.nm fa
/-- self.f = f, .. -/
def initC (T : Stat) (self : Str) (sc : Scope) (N : List Str) : List Nat → List Str → List Stmt → Bool
  | [], [], [] => true
  | k :: ns, p :: ps, .Assign [.Attribute (.Name x _) f _] (.Name y _) _ :: r => decide (x = self) && decide (y = p) && decide (T.fnm[k]? = some f) && vis ⟨N, sc, fun _ => true, []⟩ 0 self && (match N.idxOf? p with | some i => vis ⟨N, sc, fun _ => true, []⟩ i p | none => false) && initC T self sc N ns ps r
  | _, _, _ => false
structure Wd (M : Mt) (T : Stat) (B : Tab) (K : PySem.W.Frag) (mg : Str → Option Value) : Prop where
  k : M.K = K
  glb : ∀ (g : Nat) (x : Str) (d : D), T.glb[g]? = some x → B.G[g]? = some d → ∃ u v, mg x = some u ∧ RelV v u ∧ Rp M (fun _ => none) d v
  blt : ∀ x ∈ bltNames, mg x = none
  fns : ∀ (f : Nat) (F : FnS), T.fns[f]? = some F → ∃ fa fd, FnIn M T B K mg f F fa fd
  cls : ∀ (c : Nat) (x : Str), T.cnm[c]? = some x → ClOk M T K c ∧ mg x = some (.ref (M.cl c))
  fcl : ∀ (f : Nat) (F : FnS), T.fns[f]? = some F → F.meth = true → ∃ x, T.cnm[F.cls]? = some x
  new : ∀ (c : Nat) (x : Str) (ns : List Nat), T.cnm[c]? = some x → B.CL[c]? = some ns → ∃ fi fd ps, Mk K (M.cl c) fi ∧ Binds K fd ps [] ∧ ∀ (P : Program) (w : World) (base : Heap) (k : Nat), FnOk P w K mg base CX0 (k + 1) fi fd ps (spNew M c ns)
  fnm : ∀ k, M.fn k = T.fnm.getD k Str.empty
  fnd : T.fnm.Nodup ∧ Str.empty ∉ T.fnm
  mnm : ∀ (f : Nat) (F : FnS), T.fns[f]? = some F → F.meth = true → F.nm ∉ T.fnm ∧ F.nm ≠ Str.empty
  nc : M.nc = T.cnm.length
  gk : M.gk = gkA B.G
section
variable {M : Mt} {T : Stat} {B : Tab} {P : Program} {w : World} {K : PySem.W.Frag} {mg : Str → Option Value} {base : Heap} {n : Nat}
def Lvl (M : Mt) (T : Stat) (B : Tab) (P : Program) (w : World) (K : PySem.W.Frag) (mg : Str → Option Value) (base : Heap) (n : Nat) : Prop :=
  ∀ (f : Nat) (F : FnS), T.fns[f]? = some F → ∀ fa fd, FnIn M T B K mg f F fa fd → FnOk P w K mg base CX0 (n + 2) fa fd F.ps (spF M (evF B n) f F.refs)
theorem evF_len : ∀ (n f : Nat) (F : Fn) (os : List O) (r : O) (ps : List (Option O)), B.fns[f]? = some F → evF B n f os = some (r, ps) → ps.length = F.np
  | 0, _, _, _, _, _, _, h => by cases h
  | n + 1, f, F, os, r, ps, hF, h => by
    unfold evF at h
    rw [hF] at h
    simp only at h
    split at h
    · split at h
      · cases h; exact headS_len _ _
      · cases h; exact headS_len _ _
      · cases h
    · cases h
theorem evF_self : ∀ (n f : Nat) (F : Fn) (os : List O) (p : O × List (Option O)), B.fns[f]? = some F → evF B n f os = some p → selfOk F.cl os = true
  | 0, _, _, _, _, _, h => by cases h
  | n + 1, f, F, os, p, hF, h => by
    unfold evF at h
    rw [hF] at h
    simp only at h
    split at h
    · rename_i hb
      rw [Bool.and_eq_true] at hb
      exact hb.2
    · cases h
theorem Wd.gd (W : Wd M T B K mg) (L : Lvl M T B P w K mg base n) {X : Cx} {s : Sc} (hP : X.prog = P) (hw : X.w = w) (hK : X.K = K) (hm : X.mg = mg) (hb : X.base = base) (calm : X.calm = true) (hN : X.N = s.N) (nd : X.N.Nodup) (sc : X.env.scope = s.sc) (fn : ∀ x, s.fnB x = true → X.fn x = true) (room : Room (n + 2) X.A) (xe : X.xe = fun _ _ => False) :
    Gd M T B.G B.CL (evF B n) (n + 2) X s := by
  subst hP hw hK hm hb
  refine ⟨W.k.symm, calm, hN, nd, sc, fn, room, xe, W.glb, W.blt, fun f F hF => ?_, fun f F os r ps hF h => ?_, fun f F c fs os r ps hF hm h => ?_, W.cls, W.fcl, fun c x ns h1 h2 => ?_, W.fnm, W.fnd, W.mnm, W.nc, W.gk⟩
  · obtain ⟨fa, fd, I⟩ := W.fns f F hF
    obtain ⟨x, qual, st, N, body, hf, _⟩ := I.ex
    exact ⟨fa, fd, L f F hF fa fd I, .all I.bnd, hf.kp, I.mgf, I.mt⟩
  · obtain ⟨fa, fd, I⟩ := W.fns f F hF
    obtain ⟨x, qual, st, N, body, hf, _, hB, _⟩ := I.ex
    rw [evF_len n f _ os r ps hB h, I.rl]
  · obtain ⟨fa, fd, I⟩ := W.fns f F hF
    obtain ⟨x, qual, st, N, body, hf, _, hB, _⟩ := I.ex
    have := evF_self n f _ _ _ hB h
    simpa [hm, selfOk] using this
  · obtain ⟨fi, fd, ps, mk, bi, ok⟩ := W.new c x ns h1 h2
    exact ⟨fi, fd, ps, n + 1, rfl, mk, bi, ok _ _ _ n⟩
theorem lvl (W : Wd M T B K mg) : ∀ n, Lvl M T B P w K mg base n
  | 0 => fun f F hF fa fd I => by
    have no : ∀ vs H Q E, ¬ spF M (evF B 0) f F.refs vs H Q E := fun vs H Q E ⟨_, _, _, _, _, _, _, h, _⟩ => by cases h
    exact ⟨fun vs H Q E h => absurd h (no _ _ _ _), fun A outer s H args us vs Q E _ _ _ _ h => absurd h (no _ _ _ _)⟩
  | n + 1 => fun f F hF fa fd I => by
    obtain ⟨x, qual, st, N, body, hf, hS, hB, hm⟩ := I.ex
    have len : ∀ vs H Q E, spF M (evF B (n + 1)) f F.refs vs H Q E → vs.length = F.ps.length := fun vs H Q E ⟨Z, os, φ, r, ps, h1, _⟩ => by rw [h1, I.rl]
    have gd : ∀ (cdv : Value) (A : Around) (outer : List PySem.Env) (s : Shared) (H : Hp) (E : XK), Room (n + 2) (A.deeper (envOfC qual (defScope st) s.heap.objs.size fa cdv)) → Gd M T B.G B.CL (evF B n) (n + 2) (cxOf CX0 P w K mg base N qual (defScope st) fa cdv A outer s H E).nox ⟨N, defScope st, fun _ => true, fxs 0 F.refs⟩ :=
      fun cdv A outer s H E hr => W.gd (lvl W n) rfl rfl rfl rfl rfl rfl rfl hS.nd rfl (fun _ _ => rfl) hr rfl
    have tail : ∀ (vs : List V) (H : Hp) (Q : VK) (E : XK), spF M (evF B (n + 1)) f F.refs vs H Q E → tS M (fxs 0 F.refs) (evSs B.G B.CL B.W (evF B n) body) { nx := fun _ H' => Q .non H', rt := Q } (start N vs) H := by
      intro vs H Q E hsp
      obtain ⟨Z, os, φ, r, ps, h1, e, h2, h3, q⟩ := hsp
      have hl : vs.length = os.length := by have := e.len; simpa using this
      unfold evF at h2
      rw [hB] at h2
      simp only at h2
      split at h2
      · split at h2
        · rename_i o ρ hb
          cases h2
          refine ⟨Z, startS N.length os, φ, .rt _, ρ, e.start hl, hb, fun v σ' Z' H' φ' fr st' e' r' hfr hx => ?_⟩
          refine q v Z' H' φ' fr ((st'.more fun a => own_start).less fun a z => z.imp_left own_back) ?_ r' fun a ha => ⟨(hfr a ha).1, fun z => (hfr a ha).2 (own_back z)⟩
          rw [← I.rl]
          exact e'.back h1 hx
        · rename_i ρ hb
          cases h2
          refine ⟨Z, startS N.length os, φ, .nx, ρ, e.start hl, hb, fun σ' Z' H' φ' st' e' hx => ?_⟩
          refine q .non Z' H' φ' [] ((st'.more fun a => own_start).less fun a z => z.elim own_back fun z => by cases z) ?_ ⟨rfl, rfl⟩ fun a ha => absurd ha (by simp)
          rw [← I.rl]
          exact e'.back h1 hx
        · cases h2
      · cases h2
    rcases hm with hm | ⟨one, hw, hwb⟩
    · exact hf.ok hS len fun cdv A outer s H vs Q E hr hsp => ⟨_, sSs (W := B.W) body _ _ _ (gd cdv A outer s H E hr) hm, tail vs H Q E hsp⟩
    · have eb := isWords_eq hw
      subst eb
      exact fun_okT hf hS (wordsB_cell hwb) one len fun cdv A outer s H vs Q E hr hsp => ⟨_, words_ok (W := B.W) (gd cdv A outer s H E hr) hwb, tail vs H Q E hsp⟩
end
end EV

namespace EV
open PyProof.Rows PySem L2 PySem.Spec
theorem upd_upd {H : Hp} {a : Addr} {x y : HO} : L2.upd (L2.upd H a x) a y = L2.upd H a y := by
  funext b
  by_cases h : b = a
  · subst h; rw [upd_same, upd_same]
  · rw [upd_ne h, upd_ne h, upd_ne h]
theorem putF_new {f : Str} {v : V} : ∀ {fs : List (Str × V)}, f ∉ fs.map (·.1) → putF f v fs = fs ++ [(f, v)]
  | [], _ => rfl
  | (g, x) :: r, h => by
    simp only [List.map_cons, List.mem_cons, not_or] at h
    unfold putF
    rw [if_neg (fun z => h.1 z.symm), putF_new h.2]
    rfl
/-- self.f = f, .. (i: the slot of the next one) -/
def initB (T : Stat) (self : Str) (s : Sc) : Nat → List Nat → List Stmt → Bool
  | _, [], [] => true
  | i, k :: ns, .Assign [.Attribute (.Name x _) f _] (.Name y _) _ :: r => decide (x = self) && vis s 0 x && vis s i y && decide (T.fnm[k]? = some f) && initB T self s (i + 1) ns r
  | _, _, _ => false
section
variable {M : Mt} {T : Stat} {B : Tab} {P : Program} {w : World} {K : PySem.W.Frag} {mg : Str → Option Value} {base : Heap} {c : Nat}
def Slo (σ : L2.St) : Nat → List V → Prop
  | _, [] => True
  | i, u :: us => σ[i]? = some (some u) ∧ Slo σ (i + 1) us
theorem slo_of (σ : L2.St) : ∀ (us : List V) (i : Nat), (∀ j u, us[j]? = some u → σ[i + j]? = some (some u)) → Slo σ i us
  | [], _, _ => True.intro
  | u :: us, i, h => ⟨h 0 u rfl, slo_of σ us (i + 1) fun j v hj => by
    have := h (j + 1) v (by simpa using hj)
    rw [show i + 1 + j = i + (j + 1) by omega]
    exact this⟩
theorem vis_pe {X : Cx} {s : Sc} {i : Nat} {x : Str} {pos : Pos} (hN : X.N = s.N) (sc : X.env.scope = s.sc) (h : vis s i x = true) : PE X (.Name x pos) (tVar i) := by
  unfold EV.vis at h
  simp only [Bool.and_eq_true, decide_eq_true_eq] at h
  obtain ⟨⟨h1, h2⟩, h3⟩ := h
  obtain ⟨d1, d2, d3⟩ := okName_d h2
  refine pe_var (by rw [hN]; exact h1) ?_ d1 d2
  unfold Vis
  rw [sc]
  split at h3 <;> first | exact .inl (by assumption) | exact .inr (.inl (by assumption)) | exact .inr (.inr (by assumption)) | cases h3
def tInit (C : Addr) (i : Nat) (fs' : List Str) : TS := fun D σ H => ∃ a dx fs us, σ[0]? = some (some (.ref a)) ∧ H a = some (.ins C dx fs) ∧ us.length = fs'.length ∧ Slo σ i us ∧ (∀ f ∈ fs', f ∉ fs.map (·.1)) ∧ fs'.Nodup ∧ fs.length + fs'.length < 1000 ∧ D.nx σ (L2.upd H a (.ins C dx (fs ++ fs'.zip us)))
theorem init_body (cl : ClOk M T K c) (hfn : ∀ k, M.fn k = T.fnm.getD k Str.empty) {X : Cx} {s : Sc} {self : Str} (hK : X.K = K) (hN : X.N = s.N) (sc : X.env.scope = s.sc) : ∀ (ns : List Nat) (i : Nat) (r : List Stmt), initB T self s i ns r = true → PSs X r (tInit (M.cl c) i (ns.map M.fn))
  | [], i, [], _ => PSs.weak pss_nil fun D σ H ⟨a, dx, fs, us, h1, h2, h3, h4, h5, h6, h7, q⟩ => by
    have : us = [] := by cases us with | nil => rfl | cons _ _ => simp at h3
    subst this
    have e : L2.upd H a (.ins (M.cl c) dx fs) = H := by
      funext b
      by_cases hb : b = a
      · subst hb; rw [upd_same, h2]
      · rw [upd_ne hb]
    simp only [List.map_nil, List.zip_nil_left, List.append_nil] at q
    rw [e] at q
    exact q
  | [], i, _ :: _, h => by unfold initB at h; cases h
  | k :: ns, i, r0, h => by
    unfold initB at h
    split at h
    · rename_i e; cases e
    · rename_i k' ns' x p1 f p2 y p3 p4 r e
      cases e
      simp only [Bool.and_eq_true, decide_eq_true_eq] at h
      obtain ⟨⟨⟨⟨h1, h2⟩, h3⟩, h4⟩, h5⟩ := h
      have hf : M.fn k = f := by rw [hfn, List.getD_eq_getElem?_getD, h4]; rfl
      have hfm : f ∈ T.fnm := (List.mem_of_getElem? h4)
      have st := ps_fld (pos := p4) (pos' := p2) (f := f) (vis_pe (pos := p1) hN sc h2) (vis_pe (pos := p3) hN sc h3) rfl
      refine PSs.weak (pss_cons st (init_body cl hfn hK hN sc ns _ r h5)) fun D σ H ⟨a, dx, fs, us, g1, g2, g3, g4, g5, g6, g7, q⟩ => ?_
      match us, g3, g4, q with
      | u :: us, g3, g4, q =>
        rw [hK]
        simp only [List.map_cons, List.nodup_cons] at g6
        refine ⟨u, g4.1, .ref a, g1, a, M.cl c, dx, fs, rfl, g2, cl.cls, cl.attr f hfm, by simp at g7; omega, ?_⟩
        have hnf : f ∉ fs.map (·.1) := by rw [← hf]; exact g5 _ (by simp)
        rw [putF_new hnf]
        refine ⟨a, dx, fs ++ [(f, u)], us, g1, upd_same, by simpa using g3, g4.2, fun f' hf' => ?_, g6.2, by simp at g7 ⊢; omega, ?_⟩
        · simp only [List.map_append, List.mem_append, not_or, List.map_cons, List.map_nil, List.mem_singleton]
          refine ⟨g5 f' (by simp; exact .inr (by simpa using hf')), fun z => g6.1 ?_⟩
          rw [hf, ← z]
          exact hf'
        · rw [upd_upd, List.append_assoc]
          rw [← hf]
          exact q
      | [], g3, _, _ => simp at g3
    · cases h
theorem init_ok {x qual : Str} {st : Stmt} {fi : Addr} {fd : FuncData} {N ps : List Str} {self : Str} {ns : List Nat} {k : Nat} (F : L2.Fun K x qual st fi fd) (S : FnScope N (self :: ps) (defScope st)) (cl : ClOk M T K c) (hfn : ∀ k, M.fn k = T.fnm.getD k Str.empty)
    (hl : ps.length = ns.length) (hnd : (ns.map fun k => T.fnm.getD k Str.empty).Nodup) (hsm : ns.length < 1000) (hb : initB T self ⟨N, defScope st, fun _ => true, []⟩ 1 ns (defBody st) = true) : FnOk P w K mg base CX0 (k + 1) fi fd (self :: ps) (spNew M c ns) := by
  refine F.ok S (fun vs H Q E ⟨a, dx, us, h1, h2, _⟩ => by subst h1; simp [h2, hl]) fun cdv A outer s H vs Q E hr hsp => ?_
  obtain ⟨a, dx, us, rfl, h2, h3, q⟩ := hsp
  refine ⟨_, init_body (X := (cxOf CX0 P w K mg base N qual (defScope st) fi cdv A outer s H E).nox) (s := ⟨N, defScope st, fun _ => true, []⟩) cl hfn rfl rfl rfl ns 1 (defBody st) hb, ?_⟩
  have hne : M.fn = fun k => T.fnm.getD k Str.empty := funext hfn
  refine ⟨a, dx, [], us, rfl, h3, by simpa using h2, slo_of _ us 1 fun j u hj => ?_, fun f _ => by simp, by rw [hne]; exact hnd, by simpa using hsm, ?_⟩
  · unfold L2.start
    rw [List.getElem?_append_left (by have := (List.getElem?_eq_some_iff.mp hj).1; simp; omega)]
    rw [List.getElem?_map, show 1 + j = j + 1 by omega, List.getElem?_cons_succ, hj]
    rfl
  · simpa using q
/-- a look at a def's scope -/
def fsB (N ps : List Str) (sc : Scope) : Bool :=
  (match sc.kind with | .function => true | _ => false) && !sc.isCoroutine && !sc.isGenerator && decide N.Nodup && decide (N.take ps.length = ps) && ps.all (fun x => match sc.names.lookup x with | some .local => true | some .cell => true | _ => false) && sc.names.all (fun y => match y.2 with | .free => false | _ => true)
theorem fs_of {N ps : List Str} {sc : Scope} (h : fsB N ps sc = true) : FnScope N ps sc := by
  unfold fsB at h
  simp only [Bool.and_eq_true, Bool.not_eq_true', decide_eq_true_eq, List.all_eq_true] at h
  obtain ⟨⟨⟨⟨⟨⟨h1, h2⟩, h3⟩, h4⟩, h5⟩, h6⟩, h7⟩ := h
  refine ⟨?_, h2, h3, h4, h5, fun x hx => ?_, fun y hy z => ?_⟩
  · split at h1
    · assumption
    · cases h1
  · have := h6 x hx
    split at this
    · exact .inl (by assumption)
    · exact .inr (by assumption)
    · cases this
  · have := h7 y hy
    rw [z] at this
    cases this
/-- all that a def's text must be -/
def fnB (T : Stat) (B : Tab) (f : Nat) (F : FnS) (N : List Str) (body : List S) (st : Stmt) : Bool :=
  fsB N F.ps (defScope st) && decide (F.refs.length = F.ps.length) &&
    (mSs T body ⟨N, defScope st, fun _ => true, fxs 0 F.refs⟩ (defBody st) || (decide (1 ≤ F.ps.length) && isWords body && wordsB T ⟨N, defScope st, fun _ => true, fxs 0 F.refs⟩ (defBody st)))
theorem fn_in {f : Nat} {F : FnS} {x qual : Str} {st : Stmt} {fa : Addr} {fd : FuncData} {N : List Str} {body : List S} (hf : L2.Fun K x qual st fa fd) (hB : B.fns[f]? = some ⟨F.ps.length, N.length, if F.meth = true then some F.cls else none, body⟩) (h : fnB T B f F N body st = true)
    (bnd : ∀ us : List Value, us.length = F.ps.length → bindArgs fd ⟨us, []⟩ = pure (F.ps.zip us)) (mgf : F.meth = false → mg F.nm = some (.ref fa)) (mt : F.meth = true → Meth K (M.cl F.cls) F.nm fa) : FnIn M T B K mg f F fa fd := by
  unfold fnB at h
  simp only [Bool.and_eq_true, Bool.or_eq_true, decide_eq_true_eq] at h
  exact ⟨⟨x, qual, st, N, body, hf, fs_of h.1.1, hB, h.2.imp id fun z => ⟨z.1.1, z.1.2, z.2⟩⟩, bnd, h.1.2, mgf, mt⟩
/-- the law's promise -/
def spLaw (K : PySem.W.Frag) : Sp := fun vs H Q _ => ∃ (a : Addr) (ns : List Int), vs = [.ref a] ∧ SqL K H a (ns.map V.int) ∧ ns.length ≤ 63 ∧ ∀ H', Q (.bl true) H'
theorem rpa_ints {Z : Hp} : ∀ (ns : List Int), RpA M Z (ns.map .int) (ns.map V.int)
  | [] => rfl
  | n :: ns => ⟨_, _, rfl, rfl, rpa_ints ns⟩
theorem law_ok (W : Wd M T B K mg) {f n : Nat} {F : FnS} {fa : Addr} {fd : FuncData} (hF : T.fns[f]? = some F) (I : FnIn M T B K mg f F fa fd) (hr : F.refs = [false])
    (law : ∀ ns : List Int, ns.length ≤ 63 → ∃ ps, evF B n f [.val (.lst (ns.map .int))] = some (.val (.bl true), ps)) : FnOk P w K mg base CX0 (n + 2) fa fd F.ps (spLaw K) := by
  refine (lvl W n f F hF fa fd I).imp fun vs H Q E ⟨a, ns, h1, h2, h3, q⟩ => ?_
  subst h1
  obtain ⟨ps, hp⟩ := law ns h3
  have hl : ps.length = F.refs.length := by
    obtain ⟨x, qual, st, N, body, hf, _, hB, _⟩ := I.ex
    rw [evF_len n f _ _ _ ps hB hp, I.rl]
  refine ⟨H, [.val (.lst (ns.map .int))], fun _ => [], _, ps, by rw [hr]; rfl, ⟨.refl _, rfl, fun i o hi => ?_, fun b ⟨_, _, _, m⟩ => (by cases m), fun i j o u b _ _ m => (by cases m)⟩, hp, hl, fun v Z' H' φ' fr _ _ r _ => ?_⟩
  · match i, hi with
    | 0, hi =>
      cases hi
      exact ⟨.ref a, rfl, rfl, a, _, rfl, by rw [W.k]; exact h2, rpa_ints ns⟩
  · obtain ⟨_, r⟩ := r
    have r : v = .bl true := r
    subst r
    exact q H'
end
end EV
namespace EV
open PyProof.Rows PySem L2 PySem.Spec
theorem fcl_of {T : Stat} (h : (T.fns.all fun F => !F.meth || decide (F.cls < T.cnm.length)) = true) : ∀ (f : Nat) (F : FnS), T.fns[f]? = some F → F.meth = true → ∃ x, T.cnm[F.cls]? = some x := fun f F hF hm => by
  have := List.all_eq_true.mp h F (List.mem_of_getElem? hF)
  rw [hm] at this
  have : F.cls < T.cnm.length := by simpa using this
  exact ⟨_, List.getElem?_eq_getElem this⟩
theorem mnm_of {T : Stat} (h : (T.fns.all fun F => !F.meth || (!T.fnm.contains F.nm && F.nm != Str.empty)) = true) : ∀ (f : Nat) (F : FnS), T.fns[f]? = some F → F.meth = true → F.nm ∉ T.fnm ∧ F.nm ≠ Str.empty := fun f F hF hm => by
  have := List.all_eq_true.mp h F (List.mem_of_getElem? hF)
  rw [hm] at this
  simpa using this
theorem new_of {M : Mt} {T : Stat} {K : PySem.W.Frag} {mg : Str → Option Value} {c : Nat} {x qual : Str} {st : Stmt} {fi : Addr} {fd : FuncData} {N ps : List Str} {self : Str} {ns : List Nat} (mk : Mk K (M.cl c) fi) (F : L2.Fun K x qual st fi fd) (cl : ClOk M T K c) (hk : M.K = K) (hfn : ∀ k, M.fn k = T.fnm.getD k Str.empty)
    (hl : ps.length = ns.length) (hnd : (ns.map fun k => T.fnm.getD k Str.empty).Nodup) (hsm : ns.length < 1000) (hb : (fsB N (self :: ps) (defScope st) && initB T self ⟨N, defScope st, fun _ => true, []⟩ 1 ns (defBody st)) = true)
    (bnd : ∀ us : List Value, us.length = (self :: ps).length → bindArgs fd ⟨us, []⟩ = pure ((self :: ps).zip us)) :
    ∃ fi fd ps, Mk K (M.cl c) fi ∧ Binds K fd ps [] ∧ ∀ (P : Program) (w : World) (base : Heap) (k : Nat), FnOk P w K mg base CX0 (k + 1) fi fd ps (spNew M c ns) := by
  rw [Bool.and_eq_true] at hb
  exact ⟨fi, fd, self :: ps, mk, .all bnd, fun P w base k => init_ok F (fs_of hb.1) cl hfn hl hnd hsm hb.2⟩
end EV

namespace EV
open PyProof.Rows PySem L2 PySem.Spec
/-! ### the run by rules -/
def isRf : E → Bool
  | .rf _ => true
  | .fr _ => true
  | _ => false
def isBw : E → Bool
  | .bw _ => true
  | _ => false
def flK (fl : Flow) (x : Option (Flow × Env)) (y : Env) : Option (Flow × Env) := match fl with
  | .nx => x
  | f => some (f, y)
section
variable {G : List D} {CL : List (List Nat)} {W : Nat} {C : CallF} {ρ ρ' ρ0 ρ1 ρ2 ρ3 : Env} {o o0 o1 : O} {d : D} {ds : List D} {as : List O} {b m : Bool} {i : Nat} {es : List E} {p : Pr} {e a c x y : E} {r : Option (O × Env)}
theorem cond_t {α : Type} {x y r : α} {b : Bool} (h : b = true) (k : x = r) : cond b x y = r := by subst h; exact k
theorem cond_f {α : Type} {x y r : α} {b : Bool} (h : b = false) (k : y = r) : cond b x y = r := by subst h; exact k
theorem r_lit : ev G CL C (.lit d) false ρ = some (.val d, ρ) := rfl
theorem t_lit (t : truth d = some b) : ev G CL C (.lit d) true ρ = some (.val (.bl b), ρ) := by unfold ev; simp [post, O.frz, t]
theorem r_var (h : getS ρ i = some (.val d)) : ev G CL C (.var i) false ρ = some (.val d, ρ) := by unfold ev; rw [h]; rfl
theorem t_var (h : getS ρ i = some (.val d)) (t : truth d = some b) : ev G CL C (.var i) true ρ = some (.val (.bl b), ρ) := by unfold ev; rw [h]; simp [post, O.frz, t]
theorem t_bw (h : getS ρ i = some o) (t : truth o.frz = some b) : ev G CL C (.bw i) true ρ = some (.val (.bl b), ρ) := by unfold ev; simp only; rw [h]; simp [post, t]
theorem r_bw (h : getS ρ i = some (.val d)) : ev G CL C (.bw i) false ρ = some (.val d, ρ) := by unfold ev; simp only; rw [h]
theorem r_mv (h : getS ρ i = some o) : ev G CL C (.mv i) false ρ = some (o, setS ρ i none) := by unfold ev; rw [h]; rfl
theorem r_sh (h : getS ρ i = some o) : ev G CL C (.sh i) false ρ = some (.val o.frz, setS ρ i (some (.val o.frz))) := by unfold ev; rw [h]; rfl
theorem r_glob (h : G[i]? = some d) : ev G CL C (.glob i) false ρ = some (.val d, ρ) := by unfold ev; rw [h]; rfl
theorem r_op (h : evO G CL C es ρ = some (ds, ρ')) (p1 : prim p ds = some o) : ev G CL C (.op p es) false ρ = some (o, ρ') := by unfold ev; rw [h]; simp only; rw [p1]; rfl
theorem t_op (h : evO G CL C es ρ = some (ds, ρ')) (p1 : prim p ds = some o) (t : truth o.frz = some b) : ev G CL C (.op p es) true ρ = some (.val (.bl b), ρ') := by unfold ev; rw [h]; simp only; rw [p1]; simp [post, t]
theorem r_mop (hb : isBw e = false) (h0 : ev G CL C e false ρ = some (o0, ρ1)) (hr : rcv p o0.frz = true) (h : evO G CL C es ρ1 = some (ds, ρ')) (p1 : prim p (o0.frz :: ds) = some o) : ev G CL C (.mop p e es) false ρ = some (o, ρ') := by
  unfold ev
  cases e <;> first | (cases hb; done) | (simp only; rw [h0]; simp only; rw [hr]; simp only; rw [h]; simp only; rw [p1]; rfl)
theorem r_mopB (h0 : getS ρ i = some o0) (hr : rcv p o0.frz = true) (h : evO G CL C es ρ = some (ds, ρ')) (h1 : getS ρ' i = some o1) (p1 : prim p (o1.frz :: ds) = some o) : ev G CL C (.mop p (.bw i) es) false ρ = some (o, ρ') := by
  unfold ev
  simp only
  rw [h0]; simp only; rw [hr]; simp only; rw [h]; simp only; rw [h1]; simp only; rw [p1]; rfl
theorem t_mop (h : ev G CL C (.mop p e es) false ρ = some (o, ρ')) (t : truth o.frz = some b) : ev G CL C (.mop p e es) true ρ = some (.val (.bl b), ρ') := by
  revert h
  unfold ev
  cases e <;> (simp only; intro h; repeat' split at h) <;> simp_all [post]
theorem r_tup (h : evV G CL C es ρ = some (ds, ρ')) (z : ds.length ≤ sizeLine) : ev G CL C (.tup es) false ρ = some (.val (.tup ds), ρ') := by unfold ev; rw [h]; simp only; rw [if_pos z]; rfl
theorem r_lst (h : evV G CL C es ρ = some (ds, ρ')) (z : ds.length ≤ sizeLine) : ev G CL C (.lst es) false ρ = some (.lst ds, ρ') := by unfold ev; rw [h]; simp only; rw [if_pos z]; rfl
theorem r_dctT : ev G CL C (.dct0 true) false ρ = some (.dctT [], ρ) := rfl
theorem r_dct : ev G CL C (.dct0 false) false ρ = some (.dctK [], ρ) := rfl
theorem r_and (h : ev G CL C a m ρ = some (o, ρ')) (t : o.frz = .bl b) (k : cond b (ev G CL C x m ρ') (some (.val (.bl false), ρ')) = r) : ev G CL C (.and a x) m ρ = r := by unfold ev; rw [h]; simp only [t]; rw [← k]; cases b <;> rfl
theorem r_or (h : ev G CL C a m ρ = some (o, ρ')) (t : o.frz = .bl b) (k : cond b (some (.val (.bl true), ρ')) (ev G CL C x m ρ') = r) : ev G CL C (.or a x) m ρ = r := by unfold ev; rw [h]; simp only [t]; rw [← k]; cases b <;> rfl
theorem r_not (h : ev G CL C a m ρ = some (o, ρ')) (t : o.frz = .bl b) : ev G CL C (.not a) m ρ = some (.val (.bl !b), ρ') := by unfold ev; rw [h]; simp only [t]
theorem r_ite (h : ev G CL C c true ρ = some (o, ρ')) (t : o.frz = .bl b) (k : cond b (ev G CL C x false ρ') (ev G CL C y false ρ') = r) : ev G CL C (.ite c x y) false ρ = r := by unfold ev; simp only; rw [h]; simp only [t]; rw [← k]; cases b <;> rfl
theorem r_cmp2 {q : Pr} {z : E} {d1 d2 : D} (h1 : ev G CL C x false ρ = some (o0, ρ1)) (h2 : ev G CL C y false ρ1 = some (o1, ρ2)) (p1 : prim p [o0.frz, o1.frz] = some (.val (.bl b)))
    (k : cond b (match ev G CL C z false ρ2 with | none => none | some (w, ρ3) => match prim q [o1.frz, w.frz] with | some (.val (.bl b)) => some (.val (.bl b), ρ3) | _ => none) (some (.val (.bl false), ρ2)) = r) : ev G CL C (.cmp2 p q x y z) m ρ = r := by
  unfold ev; rw [h1]; simp only; rw [h2]; simp only; rw [p1]; rw [← k]; cases b <;> rfl
theorem r_cmp2z {q : Pr} {z : E} {w : O} (h : ev G CL C z false ρ = some (w, ρ')) (p1 : prim q [d, w.frz] = some (.val (.bl b))) : (match ev G CL C z false ρ with | none => none | some (w, ρ3) => match prim q [d, w.frz] with | some (.val (.bl b)) => some (O.val (.bl b), ρ3) | _ => none) = some (.val (.bl b), ρ') := by rw [h]; simp only; rw [p1]
theorem r_call {f : Nat} {os : List O} {ps : List (Option O)} (h : evA G CL C es ρ = some (as, ρ1)) (h2 : takeA es as ρ1 = some (os, ρ2)) (h3 : C f os = some (o, ps)) : ev G CL C (.call f es) false ρ = some (o, giveA es ps ρ2) := by
  unfold ev; rw [h]; simp only; rw [h2]; simp only; rw [h3]; rfl
theorem r_callE {f : Nat} {os : List O} {ps : List (Option O)} (h : evA G CL C es ρ = some (as, ρ1)) (h2 : takeA es as ρ1 = some (os, ρ2)) (h3 : C f os = some (o, ps)) (h4 : giveA es ps ρ2 = ρ') : ev G CL C (.call f es) false ρ = some (o, ρ') := by
  subst h4; exact r_call h h2 h3
theorem t_call {f : Nat} (h : ev G CL C (.call f es) false ρ = some (o, ρ')) (t : truth o.frz = some b) : ev G CL C (.call f es) true ρ = some (.val (.bl b), ρ') := by
  revert h; unfold ev; intro h; repeat' split at h
  all_goals simp_all [post]
theorem r_meth {f cl : Nat} {fs : List (Nat × D)} {os : List O} {ps : List (Option O)} (h0 : ev G CL C e false ρ = some (.val (.ins cl fs), ρ0)) (h : evA G CL C es ρ0 = some (as, ρ1)) (h2 : takeA es as ρ1 = some (os, ρ2)) (h3 : C f (.val (.ins cl fs) :: os) = some (o, ps)) :
    ev G CL C (.meth f e es) false ρ = some (o, giveA es ps.tail ρ2) := by
  unfold ev; rw [h0]; simp only; rw [h]; simp only; rw [h2]; simp only; rw [h3]; rfl
theorem t_meth {f : Nat} (h : ev G CL C (.meth f e es) false ρ = some (o, ρ')) (t : truth o.frz = some b) : ev G CL C (.meth f e es) true ρ = some (.val (.bl b), ρ') := by
  revert h; unfold ev; intro h; repeat' split at h
  all_goals simp_all [post]
theorem r_new {c : Nat} {ns : List Nat} (h : evV G CL C es ρ = some (ds, ρ')) (h2 : CL[c]? = some ns) (h3 : ns.length = ds.length) : ev G CL C (.new c es) false ρ = some (.val (.ins c (ns.zip ds)), ρ') := by
  unfold ev; rw [h]; simp only; rw [h2]; simp [h3]
theorem r_dctOf {t : Bool} (h : evO G CL C es ρ = some (ds, ρ')) (h2 : dictO (gkA G) t ds = some o) : ev G CL C (.dctOf t es) false ρ = some (o, ρ') := by unfold ev; rw [h]; simp only; rw [h2]; rfl
theorem r_frz (h : ev G CL C e false ρ = some (o, ρ')) : ev G CL C (.frz e) false ρ = some (.val o.frz, ρ') := by unfold ev; rw [h]; rfl
theorem r_pop {xs : List D} (h : getS ρ i = some (.lst xs)) (h2 : xs.getLast? = some d) : ev G CL C (.pop i) false ρ = some (.val d, setS ρ i (some (.lst xs.dropLast))) := by unfold ev; rw [h]; simp only; rw [h2]; rfl
theorem r_popAt {xs ys : List D} {k : Int} {j : Nat} (h0 : getS ρ i = some (.lst ys)) (h : ev G CL C e false ρ = some (o, ρ')) (hk : o.frz = .int k) (h1 : getS ρ' i = some (.lst xs)) (hj : ixN xs.length k = some j) (hd : xs[j]? = some d) (hz : -(2 ^ 63) ≤ k ∧ k < 2 ^ 63) : ev G CL C (.popAt i e) false ρ = some (.val d, setS ρ' i (some (.lst (xs.eraseIdx j)))) := by
  unfold ev; rw [h0]; simp only; rw [h]; simp only; rw [hk, h1]; simp only; rw [hj]; simp only; rw [hd]; simp only; rw [if_pos hz]; rfl
def cStep (G : List D) (CL : List (List Nat)) (C : CallF) (tg : Tg) (cs : List E) (e : E) (x : D) (ρ2 : Env) : Option (Option D × Env) := match bindT tg x ρ2 with
  | none => none
  | some ρ3 => match evC G CL C cs ρ3 with
    | none => none
    | some (false, ρ4) => some (none, wipeS ρ4 tg.slots)
    | some (true, ρ4) => match ev G CL C e false ρ4 with
      | none => none
      | some (o, ρ5) => some (some o.frz, wipeS ρ5 tg.slots)
theorem r_comp {tg : Tg} {k : ItK} {cs : List E} {xs ds' : List D} {ρ6 : Env} (h : evV G CL C es ρ = some (ds, ρ1)) (h2 : iterD k ds = some xs) (h3 : plainS ρ1 tg.slots = true) (h4 : compGo (cStep G CL C tg cs e) xs (wipeS ρ1 tg.slots) = some (ds', ρ6)) (h5 : ds'.length ≤ sizeLine) :
    ev G CL C (.comp tg k es cs e) false ρ = some (.lst ds', backS ρ1 ρ6 tg.slots) := by
  unfold ev; rw [h]; simp only; rw [h2]; simp only; rw [h3]; simp only
  change (match compGo (cStep G CL C tg cs e) xs (wipeS ρ1 tg.slots) with | none => none | some (ds, ρ6) => if ds.length ≤ sizeLine then post false (.lst ds) (backS ρ1 ρ6 tg.slots) else none) = _
  rw [h4]; simp only; rw [if_pos h5]; rfl
theorem cs_0 {tg : Tg} (h1 : bindT tg d ρ = some ρ1) (h2 : ev G CL C e false ρ1 = some (o, ρ2)) : cStep G CL C tg [] e d ρ = some (some o.frz, wipeS ρ2 tg.slots) := by
  unfold cStep; rw [h1]; simp only [evC]; rw [h2]
theorem cs_0e {tg : Tg} {d' : D} (h1 : bindT tg d ρ = some ρ1) (h2 : ev G CL C e false ρ1 = some (o, ρ2)) (hd : o.frz = d') (hw : wipeS ρ2 tg.slots = ρ') : cStep G CL C tg [] e d ρ = some (some d', ρ') := by
  subst hd hw
  exact cs_0 h1 h2
theorem cs_1 {tg : Tg} {R : Option (Option D × Env)} (h1 : bindT tg d ρ = some ρ1) (h2 : ev G CL C c true ρ1 = some (.val (.bl b), ρ2)) (k : cond b (match ev G CL C e false ρ2 with | none => none | some (o, ρ5) => some (some o.frz, wipeS ρ5 tg.slots)) (some (none, wipeS ρ2 tg.slots)) = R) : cStep G CL C tg [c] e d ρ = R := by
  unfold cStep; rw [h1]; simp only [evC]; rw [h2]; rw [← k]; cases b <;> rfl
theorem cs_1e {tg : Tg} (h : ev G CL C e false ρ = some (o, ρ')) : (match ev G CL C e false ρ with | none => none | some (o, ρ5) => some (some o.frz, wipeS ρ5 tg.slots)) = some (some o.frz, wipeS ρ' tg.slots) := by rw [h]
theorem cg_nil {step : D → Env → Option (Option D × Env)} : compGo step [] ρ = some ([], ρ) := rfl
theorem cg_cons {step : D → Env → Option (Option D × Env)} {x : D} {xs : List D} {od : Option D} (h : step x ρ = some (od, ρ1)) (k : compGo step xs ρ1 = some (ds, ρ2)) : compGo step (x :: xs) ρ = some (od.toList ++ ds, ρ2) := by unfold compGo; rw [h]; simp only; rw [k]
theorem o_nil : evO G CL C [] ρ = some ([], ρ) := rfl
theorem o_bw (h : getS ρ i = some o0) (k : evO G CL C es ρ = some (ds, ρ')) (h' : getS ρ' i = some o) : evO G CL C (.bw i :: es) ρ = some (o.frz :: ds, ρ') := by unfold evO; simp only; rw [h]; simp only; rw [k]; simp only; rw [h']
theorem o_cons (hb : isBw e = false) (h : ev G CL C e false ρ = some (o, ρ1)) (k : evO G CL C es ρ1 = some (ds, ρ')) : evO G CL C (e :: es) ρ = some (o.frz :: ds, ρ') := by
  unfold evO; cases e <;> first | (cases hb; done) | (simp only; rw [h]; simp only; rw [k])
theorem v_nil : evV G CL C [] ρ = some ([], ρ) := rfl
theorem v_cons (h : ev G CL C e false ρ = some (o, ρ1)) (k : evV G CL C es ρ1 = some (ds, ρ')) : evV G CL C (e :: es) ρ = some (o.frz :: ds, ρ') := by unfold evV; rw [h]; simp only; rw [k]
theorem a_nil : evA G CL C [] ρ = some ([], ρ) := rfl
theorem a_fr (h : ev G CL C e false ρ = some (o, ρ1)) (k : evA G CL C es ρ1 = some (as, ρ')) : evA G CL C (.fr e :: es) ρ = some (o :: as, ρ') := by unfold evA; simp only; rw [show ev G CL C (.fr e) false ρ = _ from by unfold ev; exact h]; simp only; rw [k]; rfl
theorem a_rf (h : getS ρ i = some o) (k : evA G CL C es ρ = some (as, ρ')) : evA G CL C (.rf i :: es) ρ = some (.val .non :: as, ρ') := by unfold evA; simp only; rw [h]; simp only; rw [k]
theorem a_cons (hb : isRf e = false) (h : ev G CL C e false ρ = some (o, ρ1)) (k : evA G CL C es ρ1 = some (as, ρ')) : evA G CL C (e :: es) ρ = some (.val o.frz :: as, ρ') := by
  unfold evA; cases e <;> first | (cases hb; done) | (simp only; rw [h]; simp only; rw [k]; rfl)
/-! statements -/
variable {s : S} {ss : List S} {fl : Flow} {R : Option (Flow × Env)}
theorem ss_nil : evSs G CL W C [] ρ = some (.nx, ρ) := rfl
theorem ss_cons (h : evS G CL W C s ρ = some (fl, ρ1)) (k : flK fl (evSs G CL W C ss ρ1) ρ1 = R) : evSs G CL W C (s :: ss) ρ = R := by unfold evSs; rw [h]; rw [← k]; cases fl <;> rfl
theorem fl_nx {X : Option (Flow × Env)} (k : X = R) : flK .nx X ρ = R := k
theorem fl_rt {X : Option (Flow × Env)} : flK (.rt o) X ρ = some (.rt o, ρ) := rfl
theorem fl_bk {X : Option (Flow × Env)} : flK .bk X ρ = some (.bk, ρ) := rfl
theorem fl_ct {X : Option (Flow × Env)} : flK .ct X ρ = some (.ct, ρ) := rfl
theorem s_asg (h : ev G CL C e false ρ = some (o, ρ')) : evS G CL W C (.asg i e) ρ = some (.nx, setS ρ' i (some o)) := by unfold evS; rw [h]
theorem s_unp {is : List Nat} (h : ev G CL C e false ρ = some (o, ρ')) (h2 : bindT (.many is) o.frz ρ' = some ρ1) : evS G CL W C (.unp is e) ρ = some (.nx, ρ1) := by unfold evS; rw [h]; simp only; rw [h2]
theorem s_setI {k : E} {o2 o3 : O} (h : ev G CL C e false ρ = some (o, ρ1)) (h1 : getS ρ1 i = some o0) (h2 : ev G CL C k false ρ1 = some (o1, ρ2)) (h3 : getS ρ2 i = some o2) (h4 : setO (keyOk G k) o2 o1.frz o.frz = some o3) : evS G CL W C (.setI i k e) ρ = some (.nx, setS ρ2 i (some o3)) := by
  unfold evS; rw [h]; simp only; rw [h1]; simp only; rw [h2]; simp only; rw [h3]; simp only; rw [h4]
theorem s_app {xs ys : List D} (h0 : getS ρ i = some (.lst ys)) (h : ev G CL C e false ρ = some (o, ρ')) (h1 : getS ρ' i = some (.lst xs)) (hz : xs.length < sizeLine) : evS G CL W C (.mut .app i [e]) ρ = some (.nx, setS ρ' i (some (.lst (xs ++ [o.frz])))) := by
  unfold evS; rw [h0]; simp only [evV]; rw [h]; simp only; rw [h1]; simp only [mutO]; rw [if_pos hz]
theorem s_ext {xs ys zs : List D} (h0 : getS ρ i = some (.lst zs)) (h : ev G CL C e false ρ = some (.lst ys, ρ')) (h1 : getS ρ' i = some (.lst xs)) (hz : xs.length + ys.length ≤ sizeLine) : evS G CL W C (.ext i e) ρ = some (.nx, setS ρ' i (some (.lst (xs ++ ys)))) := by
  unfold evS; rw [h0]; simp only; rw [h]; simp only; rw [h1]; simp only; rw [if_pos hz]
theorem s_rev {xs : List D} (h0 : getS ρ i = some (.lst xs)) : evS G CL W C (.mut .rev i []) ρ = some (.nx, setS ρ i (some (.lst xs.reverse))) := by
  unfold evS; rw [h0]; simp only [evV]; rw [h0]; rfl
theorem s_aug {j k w : Int} (h0 : getS ρ i = some (.val (.int j))) (h : ev G CL C e false ρ = some (o, ρ')) (hk : o.frz = .int k) (p1 : prim p [.int j, .int k] = some (.val (.int w))) : evS G CL W C (.aug i p e) ρ = some (.nx, setS ρ' i (some (.val (.int w)))) := by
  unfold evS; rw [h0]; simp only; rw [h]; simp only; rw [hk]; simp only; rw [p1]
theorem s_expr (h : ev G CL C e false ρ = some (o, ρ')) : evS G CL W C (.expr e) ρ = some (.nx, ρ') := by unfold evS; rw [h]
theorem s_ret (h : ev G CL C e false ρ = some (o, ρ')) : evS G CL W C (.ret e) ρ = some (.rt o, ρ') := by unfold evS; rw [h]
theorem s_retN : evS G CL W C .retN ρ = some (.rt (.val .non), ρ) := rfl
theorem s_pass : evS G CL W C .pass ρ = some (.nx, ρ) := rfl
theorem s_brk : evS G CL W C .brk ρ = some (.bk, ρ) := rfl
theorem s_cont : evS G CL W C .cont ρ = some (.ct, ρ) := rfl
theorem s_ite {as bs : List S} (h : ev G CL C c true ρ = some (.val (.bl b), ρ')) (k : cond b (evSs G CL W C as ρ') (evSs G CL W C bs ρ') = R) : evS G CL W C (.ite c as bs) ρ = R := by unfold evS; rw [h]; rw [← k]; cases b <;> rfl
theorem s_for {tg : Tg} {k : ItK} {body : List S} {xs : List D} (h : evV G CL C es ρ = some (ds, ρ1)) (h2 : iterD k ds = some xs) (h3 : forGo (bindT tg) (evSs G CL W C body) xs ρ1 = R) : evS G CL W C (.for tg k es body) ρ = R := by unfold evS; rw [h]; simp only; rw [h2]; exact h3
def fgK (fl : Flow) (x : Option (Flow × Env)) (y : Env) : Option (Flow × Env) := match fl with
  | .nx => x
  | .ct => x
  | .bk => some (.nx, y)
  | .rt o => some (.rt o, y)
theorem fg_nx {X : Option (Flow × Env)} (k : X = R) : fgK .nx X ρ = R := k
theorem fg_ct {X : Option (Flow × Env)} (k : X = R) : fgK .ct X ρ = R := k
theorem fg_bk {X : Option (Flow × Env)} : fgK .bk X ρ = some (.nx, ρ) := rfl
theorem fg_rt {X : Option (Flow × Env)} : fgK (.rt o) X ρ = some (.rt o, ρ) := rfl
theorem f_nil {bd : D → Env → Option Env} {body : Env → Option (Flow × Env)} : forGo bd body [] ρ = some (.nx, ρ) := rfl
theorem f_cons {bd : D → Env → Option Env} {body : Env → Option (Flow × Env)} {x : D} {xs : List D} (h : bd x ρ = some ρ1) (h2 : body ρ1 = some (fl, ρ2)) (k : fgK fl (forGo bd body xs ρ2) ρ2 = R) : forGo bd body (x :: xs) ρ = R := by
  unfold forGo; rw [h]; simp only; rw [h2]; rw [← k]; cases fl <;> rfl
/-- a loop that goes on to its end -/
theorem f_all {bd : D → Env → Option Env} {body : Env → Option (Flow × Env)} (P : Nat → Env → Prop) : ∀ (xs : List D) (k : Nat) (ρ : Env), P k ρ → (∀ j x ρ, xs[j]? = some x → P (k + j) ρ → ∃ ρ1 fl ρ2, bd x ρ = some ρ1 ∧ body ρ1 = some (fl, ρ2) ∧ (fl = .nx ∨ fl = .ct) ∧ P (k + j + 1) ρ2) →
    ∃ ρ', forGo bd body xs ρ = some (.nx, ρ') ∧ P (k + xs.length) ρ'
  | [], k, ρ, h, _ => ⟨ρ, rfl, h⟩
  | x :: xs, k, ρ, h, st => by
    obtain ⟨ρ1, fl, ρ2, h1, h2, h3, h4⟩ := st 0 x ρ rfl h
    obtain ⟨ρ', g1, g2⟩ := f_all P xs (k + 1) ρ2 h4 fun j y ρ hy hp => by
      have := st (j + 1) y ρ (by simpa using hy) (by rw [show k + (j + 1) = k + 1 + j by omega]; exact hp)
      rw [show k + (j + 1) + 1 = k + 1 + j + 1 by omega] at this
      exact this
    refine ⟨ρ', f_cons h1 h2 ?_, by rw [List.length_cons, show k + (xs.length + 1) = k + 1 + xs.length by omega]; exact g2⟩
    rcases h3 with rfl | rfl
    · exact fg_nx g1
    · exact fg_ct g1
/-- a comprehension without tests -/
theorem c_all {step : D → Env → Option (Option D × Env)} (P : Nat → List D → Env → Prop) : ∀ (xs : List D) (k : Nat) (acc : List D) (ρ : Env), P k acc ρ → (∀ j x acc ρ, xs[j]? = some x → P (k + j) acc ρ → ∃ od ρ1, step x ρ = some (od, ρ1) ∧ P (k + j + 1) (acc ++ od.toList) ρ1) →
    ∃ ds ρ', compGo step xs ρ = some (ds, ρ') ∧ P (k + xs.length) (acc ++ ds) ρ'
  | [], k, acc, ρ, h, _ => ⟨[], ρ, rfl, by simpa using h⟩
  | x :: xs, k, acc, ρ, h, st => by
    obtain ⟨od, ρ1, h1, h2⟩ := st 0 x acc ρ rfl h
    obtain ⟨ds, ρ', g1, g2⟩ := c_all P xs (k + 1) (acc ++ od.toList) ρ1 h2 fun j y acc ρ hy hp => by
      have := st (j + 1) y acc ρ (by simpa using hy) (by rw [show k + (j + 1) = k + 1 + j by omega]; exact hp)
      rw [show k + (j + 1) + 1 = k + 1 + j + 1 by omega] at this
      exact this
    exact ⟨od.toList ++ ds, ρ', cg_cons h1 g1, by rw [List.length_cons, show k + (xs.length + 1) = k + 1 + xs.length by omega, ← List.append_assoc]; exact g2⟩
end
section
variable {T : Tab} {n f : Nat} {F : Fn} {os : List O} {o : O} {ρ : Env} {ps : List (Option O)}
theorem r_fn (hF : T.fns[f]? = some F) (h1 : (os.length == F.np && selfOk F.cl os) = true) (h : evSs T.G T.CL T.W (evF T n) F.body (startS F.ns os) = some (.rt o, ρ)) (hp : headS ρ F.np = ps) : evF T (n + 1) f os = some (o, ps) := by
  unfold evF; rw [hF]; simp only; rw [h1]; simp only; rw [h, ← hp]
theorem r_fn0 (hF : T.fns[f]? = some F) (h1 : (os.length == F.np && selfOk F.cl os) = true) (h : evSs T.G T.CL T.W (evF T n) F.body (startS F.ns os) = some (.nx, ρ)) (hp : headS ρ F.np = ps) : evF T (n + 1) f os = some (.val .non, ps) := by
  unfold evF; rw [hF]; simp only; rw [h1]; simp only; rw [h, ← hp]
end
/-! small operations at open numbers -/
theorem p_mul1 {i j : Int} (h : -(2 ^ 64) < i ∧ i < 2 ^ 64) : prim .mul [.int i, .int j] = some (.val (.int (i * j))) := by show (if _ then _ else _) = _; rw [if_pos (.inl h)]; rfl
theorem p_mul2 {i j : Int} (h : -(2 ^ 64) < j ∧ j < 2 ^ 64) : prim .mul [.int i, .int j] = some (.val (.int (i * j))) := by show (if _ then _ else _) = _; rw [if_pos (.inr h)]; rfl
theorem p_mod {i j : Int} (h : 0 < j) : prim .mod [.int i, .int j] = some (.val (.int (i % j))) := by show (if _ then _ else _) = _; rw [if_pos h]; rfl
theorem p_fdiv {i j : Int} (h : 0 < j ∧ j < 2 ^ 64) : prim .fdiv [.int i, .int j] = some (.val (.int (i / j))) := by show (if _ then _ else _) = _; rw [if_pos h]; rfl
theorem p_catL {xs ys : List D} (h : xs.length + ys.length ≤ sizeLine) : prim .add [.lst xs, .lst ys] = some (.lst (xs ++ ys)) := by show (if _ then _ else _) = _; rw [if_pos h]
theorem p_catS {i j : Str} (h : i.length + j.length ≤ sizeLine) : prim .add [.str i, .str j] = some (.val (.str (i ++ j))) := by show (if _ then _ else _) = _; rw [if_pos h]
theorem p_ixL {xs : List D} {i : Int} {d : D} (h : atI xs i = some d) : prim .idx [.lst xs, .int i] = some (.val d) := by show (atI xs i).map O.val = _; rw [h]; rfl
theorem p_ixT {xs : List D} {i : Int} {d : D} (h : atI xs i = some d) : prim .idx [.tup xs, .int i] = some (.val d) := by show (atI xs i).map O.val = _; rw [h]; rfl
theorem p_ixS {z : Str} {i : Int} {c : Nat} (hz : z.length ≤ sizeLine) (h : atI z.cps.toList i = some c) : prim .idx [.str z, .int i] = some (.val (sign c)) := by show (if _ then _ else _) = _; rw [if_pos hz, h]; rfl
theorem tr_str {y : Str} (h : y.length ≤ sizeLine) : truth (.str y) = some ((y.length : Int) != 0) := by show (if _ then _ else _) = _; rw [if_pos h]
theorem sz_le {n : Nat} (h : Nat.ble n 1000000 = true) : n ≤ sizeLine := Nat.le_trans (Nat.le_of_ble_eq_true h) (by decide)
theorem sz_lt {n : Nat} (h : Nat.ble n 1000000 = true) : n < sizeLine := Nat.lt_of_le_of_lt (Nat.le_of_ble_eq_true h) (by decide)
theorem sz_leO {n : Nat} (h : n ≤ 1000000) : n ≤ sizeLine := Nat.le_trans h (by decide)
theorem sz_ltO {n : Nat} (h : n < 1000000) : n < sizeLine := Nat.lt_of_lt_of_le h (by decide)
def isStr : D → Bool
  | .str _ => true
  | _ => false
theorem atI_of {xs : List D} {i : Int} (h0 : 0 ≤ i) (h1 : i < xs.length) : ∃ d, atI xs i = some d ∧ d ∈ xs := by
  obtain ⟨j, rfl⟩ := Int.eq_ofNat_of_zero_le h0
  have hj : j < xs.length := by omega
  exact ⟨xs[j], atI_nat (List.getElem?_eq_getElem hj), List.getElem_mem hj⟩
theorem atI_cps {xs : List Nat} {i : Int} (h0 : 0 ≤ i) (h1 : i < xs.length) : ∃ c, atI xs i = some c := by
  obtain ⟨j, rfl⟩ := Int.eq_ofNat_of_zero_le h0
  have hj : j < xs.length := by omega
  exact ⟨xs[j], atI_nat (List.getElem?_eq_getElem hj)⟩
theorem atI_str {xs : List D} {i : Int} (hs : xs.all isStr = true) (h0 : 0 ≤ i) (h1 : i < xs.length) : ∃ s, atI xs i = some (.str s) := by
  obtain ⟨d, h, hm⟩ := atI_of h0 h1
  have := List.all_eq_true.mp hs d hm
  cases d with
  | str s => exact ⟨s, h⟩
  | _ => cases this
theorem allStr_snoc : ∀ {xs : List D} {ys : List Str} {y : Str}, allStr xs = some ys → allStr (xs ++ [.str y]) = some (ys ++ [y])
  | [], ys, y, h => by cases h; rfl
  | x :: xs, ys, y, h => by
    cases x with
    | str s =>
      cases q : allStr xs with
      | none => simp [allStr, q] at h
      | some zs =>
        simp [allStr, q] at h
        subst h
        simp [allStr, allStr_snoc q]
    | _ => simp [allStr] at h
theorem p_join {a : Str} {xs : List D} {ys : List Str} (h : allStr xs = some ys) (hz : (ys.map (·.length)).sum + ys.length * a.length ≤ 16777216) : prim .join [.str a, .lst xs] = some (.val (.str (Txt.join a ys))) := by
  simp only [prim, str1, seqOf, Option.bind_some, h]
  rw [if_pos hz]
end EV

namespace EV
open PyProof.Rows PySem L2 PySem.Spec
/-! ### tools for the plain laws -/
theorem it1 {n : Int} (h : 0 ≤ n ∧ n < 1000000) : iterD .rng1 [.int n] = some (rngL 0 n.toNat) := by
  show (if _ then _ else _) = _
  rw [if_pos (by omega)]
theorem it2 {i j : Int} (h : 0 ≤ i ∧ i < 1000000 ∧ 0 ≤ j ∧ j < 1000000) : iterD .rng2 [.int i, .int j] = some (rngL i (j - i).toNat) := by
  show (if _ then _ else _) = _
  rw [if_pos (by omega)]
theorem rngL_len {lo : Int} {n : Nat} : (rngL lo n).length = n := by simp [rngL]
theorem ixN_nat' {n j : Nat} (hj : j < n) : ixN n (j : Int) = some j := by
  unfold ixN
  rw [if_pos (by omega), if_pos (by omega)]
  simp
theorem ix0 {n : Nat} : ixN (n + 1) 0 = some 0 := ixN_nat' (n := n + 1) (j := 0) (by omega)
theorem atI0 {α : Type} {x : α} {xs : List α} : atI (x :: xs) 0 = some x := atI_nat (j := 0) rfl
theorem ixOf {n : Nat} {i : Int} (h : 0 ≤ i ∧ i < n) : ∃ j, ixN n i = some j ∧ j < n := by
  obtain ⟨j, rfl⟩ := Int.eq_ofNat_of_zero_le h.1
  exact ⟨j, ixN_nat' (by have := h.2; omega), by have := h.2; omega⟩
inductive F2 {α β : Type} (R : α → β → Prop) : List α → List β → Prop
  | nil : F2 R [] []
  | cons {x : α} {y : β} {xs : List α} {ys : List β} : R x y → F2 R xs ys → F2 R (x :: xs) (y :: ys)
/-- a comprehension over things, each with its answer, that leaves the slots -/
theorem c_rel {step : D → Env → Option (Option D × Env)} {ρ : Env} (R : D → D → Prop) : ∀ (xs : List D), (∀ x ∈ xs, ∃ y, step x ρ = some (some y, ρ) ∧ R x y) → ∃ ys, compGo step xs ρ = some (ys, ρ) ∧ ys.length = xs.length ∧ F2 R xs ys
  | [], _ => ⟨[], rfl, rfl, .nil⟩
  | x :: xs, h => by
    obtain ⟨y, h1, h2⟩ := h x (by simp)
    obtain ⟨ys, g1, g2, g3⟩ := c_rel R xs fun z hz => h z (by simp [hz])
    exact ⟨y :: ys, cg_cons h1 g1, by simp [g2], .cons h2 g3⟩
/-- .. where the answers are told -/
theorem c_map {step : D → Env → Option (Option D × Env)} {ρ : Env} (g : D → D) : ∀ (xs : List D), (∀ x ∈ xs, step x ρ = some (some (g x), ρ)) → compGo step xs ρ = some (xs.map g, ρ)
  | [], _ => rfl
  | x :: xs, h => cg_cons (h x (by simp)) (c_map g xs fun z hz => h z (by simp [hz]))
/-- .. with a test -/
theorem c_filter {step : D → Env → Option (Option D × Env)} {ρ : Env} (p : D → Bool) : ∀ (xs : List D), (∀ x ∈ xs, step x ρ = some (if p x then some x else none, ρ)) → compGo step xs ρ = some (xs.filter p, ρ)
  | [], _ => rfl
  | x :: xs, h => by
    have := cg_cons (h x (by simp)) (c_filter p xs fun z hz => h z (by simp [hz]))
    rw [this]
    by_cases e : p x = true <;> simp [e, List.filter_cons]
/-- a comprehension that hands something on -/
theorem c_st {step : D → Env → Option (Option D × Env)} (I : Env → Prop) (R : D → D → Prop) : ∀ (xs : List D) (ρ : Env), I ρ → (∀ x ∈ xs, ∀ ρ, I ρ → ∃ y ρ', step x ρ = some (some y, ρ') ∧ R x y ∧ I ρ') → ∃ ys ρ', compGo step xs ρ = some (ys, ρ') ∧ ys.length = xs.length ∧ F2 R xs ys ∧ I ρ'
  | [], ρ, hi, _ => ⟨[], ρ, rfl, rfl, .nil, hi⟩
  | x :: xs, ρ, hi, h => by
    obtain ⟨y, ρ1, h1, h2, h3⟩ := h x (by simp) ρ hi
    obtain ⟨ys, ρ2, g1, g2, g3, g4⟩ := c_st I R xs ρ1 h3 fun z hz => h z (by simp [hz])
    exact ⟨y :: ys, ρ2, cg_cons h1 g1, by simp [g2], .cons h2 g3, g4⟩
/-- a loop over things with something kept -/
theorem f_st {bd : D → Env → Option Env} {body : Env → Option (Flow × Env)} (I : Env → Prop) (xs : List D) (ρ : Env) (h : I ρ) (st : ∀ x ∈ xs, ∀ ρ, I ρ → ∃ ρ1 ρ2, bd x ρ = some ρ1 ∧ body ρ1 = some (.nx, ρ2) ∧ I ρ2) : ∃ ρ', forGo bd body xs ρ = some (.nx, ρ') ∧ I ρ' := by
  obtain ⟨ρ', h1, h2⟩ := f_all (fun _ => I) xs 0 ρ h fun j x ρ hx hi => by
    obtain ⟨ρ1, ρ2, g1, g2, g3⟩ := st x (List.mem_of_getElem? hx) ρ hi
    exact ⟨ρ1, .nx, ρ2, g1, g2, .inl rfl, g3⟩
  exact ⟨ρ', h1, h2⟩
theorem w_f {test : Env → Option (O × Env)} {body : Env → Option (Flow × Env)} {n : Nat} {ρ ρ1 : Env} (h : test ρ = some (.val (.bl false), ρ1)) : whileGo test body (n + 1) ρ = some (.nx, ρ1) := by unfold whileGo; rw [h]
theorem w_t {test : Env → Option (O × Env)} {body : Env → Option (Flow × Env)} {n : Nat} {ρ ρ1 ρ2 : Env} {R : Option (Flow × Env)} (h : test ρ = some (.val (.bl true), ρ1)) (h2 : body ρ1 = some (.nx, ρ2)) (k : whileGo test body n ρ2 = R) : whileGo test body (n + 1) ρ = R := by unfold whileGo; rw [h]; simp only; rw [h2]; exact k
theorem w_rt {test : Env → Option (O × Env)} {body : Env → Option (Flow × Env)} {n : Nat} {ρ ρ1 ρ2 : Env} {o : O} (h : test ρ = some (.val (.bl true), ρ1)) (h2 : body ρ1 = some (.rt o, ρ2)) : whileGo test body (n + 1) ρ = some (.rt o, ρ2) := by unfold whileGo; rw [h]; simp only; rw [h2]
theorem s_while {G : List D} {CL : List (List Nat)} {W : Nat} {C : CallF} {c : E} {body : List S} {ρ : Env} {R : Option (Flow × Env)} (h : whileGo (ev G CL C c true) (evSs G CL W C body) W ρ = R) : evS G CL W C (.while c body) ρ = R := by unfold evS; exact h
/-! lists of numbers, of texts -/
theorem toPys_ints : ∀ ns : List Int, toPys (ns.map D.int) = some (ns.map PyData.int)
  | [] => rfl
  | n :: ns => by simp [toPys, toPy, toPys_ints ns]
theorem eq_nil (ns : List Int) : prim .eq [.lst (ns.map .int), .lst []] = some (.val (.bl ns.isEmpty)) := by
  have h1 : toPy (.lst (ns.map .int)) = some (.list (ns.map .int)) := by unfold toPy; rw [toPys_ints]; rfl
  have h2 : toPy (.lst []) = some (.list []) := rfl
  have h3 : SeqAt.shaped (.list []) = true := rfl
  show ((eqD _ _).map _) = _
  unfold eqD
  simp only [eqS]
  unfold eqP
  rw [h1, h2]
  simp only [PySem.W.ke_shaped_ints, h3, Bool.and_self, if_true]
  cases ns <;> simp [PyData.eqv, PyData.eqvAll]
theorem allInt_map : ∀ ns : List Int, allInt (ns.map .int) = some ns
  | [] => rfl
  | n :: ns => by simp [allInt, allInt_map ns]
theorem allStr_map : ∀ ns : List Str, allStr (ns.map .str) = some ns
  | [] => rfl
  | n :: ns => by simp [allStr, allStr_map ns]
theorem allBl_map : ∀ ns : List Bool, allBl (ns.map .bl) = some ns
  | [] => rfl
  | n :: ns => by simp [allBl, allBl_map ns]
theorem p_sum {ns : List Int} : prim .sum [.lst (ns.map .int)] = some (.val (.int ns.sum)) := by simp [prim, lstD, allInt_map, oi]
theorem p_all {bs : List Bool} : prim .all [.lst (bs.map .bl)] = some (.val (.bl (bs.all id))) := by simp [prim, lstD, allBl_map, ob]
theorem p_any {bs : List Bool} : prim .any [.lst (bs.map .bl)] = some (.val (.bl (bs.any id))) := by simp [prim, lstD, allBl_map, ob]
theorem p_sort {ss : List Str} (h : ss.length < 64) : prim .sorted [.lst (ss.map .str)] = some (.lst ((sortS ss).map .str)) := by simp [prim, lstD, allStr_map, h]
theorem cutL_map {α β : Type} (f : α → β) (xs : List α) (lo hi : Option Int) : cutL (xs.map f) lo hi = (cutL xs lo hi).map f := by
  unfold cutL
  rw [List.length_map, List.map_take, List.map_drop]
theorem cutL_len {α : Type} (xs : List α) (lo hi : Option Int) : (cutL xs lo hi).length ≤ xs.length := by
  unfold cutL; rw [List.length_take, List.length_drop]; omega
theorem cutL_mem {α : Type} {xs : List α} {lo hi : Option Int} {x : α} (h : x ∈ cutL xs lo hi) : x ∈ xs := List.mem_of_mem_drop (List.mem_of_mem_take h)
theorem p_cutLh {xs : List D} {j : Int} : prim (.slc false true) [.lst xs, .int j] = some (.lst (cutL xs none (some j))) := rfl
theorem p_cutLl {xs : List D} {j : Int} : prim (.slc true false) [.lst xs, .int j] = some (.lst (cutL xs (some j) none)) := rfl
theorem p_cutTl {xs : List D} {j : Int} : prim (.slc true false) [.tup xs, .int j] = some (.val (.tup (cutL xs (some j) none))) := rfl
theorem p_cutSh {z : Str} {j : Int} (h : z.length ≤ sizeLine) : prim (.slc false true) [.str z, .int j] = some (.val (.str ⟨(cutL z.cps.toList none (some j)).toArray⟩)) := by show (if _ then _ else _) = _; rw [if_pos h]
theorem p_cutSl {z : Str} {j : Int} (h : z.length ≤ sizeLine) : prim (.slc true false) [.str z, .int j] = some (.val (.str ⟨(cutL z.cps.toList (some j) none).toArray⟩)) := by show (if _ then _ else _) = _; rw [if_pos h]
theorem p_cutSb {z : Str} {i j : Int} (h : z.length ≤ sizeLine) : prim (.slc true true) [.str z, .int i, .int j] = some (.val (.str ⟨(cutL z.cps.toList (some i) (some j)).toArray⟩)) := by show (if _ then _ else _) = _; rw [if_pos h]
theorem p_catT {xs ys : List D} (h : xs.length + ys.length ≤ sizeLine) : prim .add [.tup xs, .tup ys] = some (.val (.tup (xs ++ ys))) := by show (if _ then _ else _) = _; rw [if_pos h]
theorem p_eqS {a b : Str} : prim .eq [.str a, .str b] = some (.val (.bl (decide (a = b)))) := rfl
theorem p_pow9 : prim .pow [.int 10, .int 9] = some (.val (.int 1000000000)) := by rfl
theorem p_pow6 : prim .pow [.int 10, .int 6] = some (.val (.int 1000000)) := by rfl
theorem p_shl {i j : Int} (h : 0 ≤ j ∧ j ≤ 1000000 ∧ i.natAbs < 2 ^ 64) : prim .shl [.int i, .int j] = some (.val (.int (i * 2 ^ j.toNat))) := by show (if _ then _ else _) = _; rw [if_pos h]; rfl
theorem flat_strs (ss : List Str) : (ss.map D.str).all flatD = true := by simp [List.all_eq_true, flatD]
theorem inF_strs {s : Str} {ss : List Str} : inF (.str s) (ss.map .str) = decide (s ∈ ss) := by
  unfold inF
  rw [List.any_map]
  apply Bool.eq_iff_iff.mpr
  simp [eqF]
theorem p_inS {s : Str} {ss : List Str} : prim .isin [.str s, .lst (ss.map .str)] = some (.val (.bl (decide (s ∈ ss)))) := by
  show (inL _ _).map _ = _
  unfold inL
  rw [flat_strs, inF_strs]; rfl
theorem p_ninS {s : Str} {ss : List Str} : prim .notin [.str s, .lst (ss.map .str)] = some (.val (.bl (!decide (s ∈ ss)))) := by
  show (inL _ _).map _ = _
  unfold inL
  rw [flat_strs, inF_strs]; rfl
theorem p_tupL {xs : List D} : prim .tuple [.lst xs] = some (.val (.tup xs)) := rfl
theorem getElem?_strs {ss : List Str} {j : Nat} (h : j < ss.length) : ∃ s, (ss.map D.str)[j]? = some (.str s) ∧ s ∈ ss := ⟨ss[j], by simp [h], List.getElem_mem h⟩
theorem p_ixSs {ss : List Str} {i : Int} (h : 0 ≤ i ∧ i < ss.length) : ∃ s, prim .idx [.lst (ss.map .str), .int i] = some (.val (.str s)) ∧ s ∈ ss := by
  obtain ⟨j, rfl⟩ := Int.eq_ofNat_of_zero_le h.1
  obtain ⟨s, h1, h2⟩ := getElem?_strs (ss := ss) (j := j) (by omega)
  exact ⟨s, p_ixL (atI_nat h1), h2⟩
theorem pigeon {α : Type} [DecidableEq α] : ∀ {L M : List α}, L.Nodup → M.length < L.length → ∃ x ∈ L, x ∉ M
  | [], M, _, h => by simp at h
  | x :: L, M, hn, h => by
    by_cases hx : x ∈ M
    · rw [List.nodup_cons] at hn
      have hl : (M.erase x).length = M.length - 1 := List.length_erase_of_mem hx
      have hp : 0 < M.length := List.length_pos_of_mem hx
      obtain ⟨y, h1, h2⟩ := pigeon (M := M.erase x) hn.2 (by rw [hl]; simp at h; omega)
      refine ⟨y, by simp [h1], fun hy => h2 ?_⟩
      have : y ≠ x := fun e => hn.1 (e ▸ h1)
      exact (List.mem_erase_of_ne this).mpr hy
    · exact ⟨x, by simp, hx⟩
end EV

namespace EV
open PyProof.Rows PySem L2 PySem.Spec
theorem rngL_mem {lo : Int} {n : Nat} {d : D} (h : d ∈ rngL lo n) : ∃ i : Int, d = .int i ∧ lo ≤ i ∧ i < lo + n := by
  obtain ⟨j, hj⟩ := List.getElem?_of_mem h
  obtain ⟨h1, rfl⟩ := rngL_get hj
  exact ⟨lo + j, rfl, by omega, by omega⟩
theorem st_mk {bd : D → Env → Option Env} {body : Env → Option (Flow × Env)} {I : Env → Prop} {x : D} {ρ ρ1 ρ2 : Env} (h1 : bd x ρ = some ρ1) (h2 : body ρ1 = some (.nx, ρ2)) (h3 : I ρ2) : ∃ ρ1 ρ2, bd x ρ = some ρ1 ∧ body ρ1 = some (.nx, ρ2) ∧ I ρ2 := ⟨ρ1, ρ2, h1, h2, h3⟩
theorem stn_mk {bd : D → Env → Option Env} {body : Env → Option (Flow × Env)} {P : Env → Prop} {x : D} {ρ ρ1 ρ2 : Env} (h1 : bd x ρ = some ρ1) (h2 : body ρ1 = some (.nx, ρ2)) (h3 : P ρ2) : ∃ ρ1 fl ρ2, bd x ρ = some ρ1 ∧ body ρ1 = some (fl, ρ2) ∧ (fl = .nx ∨ fl = .ct) ∧ P ρ2 := ⟨ρ1, .nx, ρ2, h1, h2, .inl rfl, h3⟩
theorem cst_mk {G : List D} {CL : List (List Nat)} {C : CallF} {tg : Tg} {e : E} {I : Env → Prop} {R : D → Prop} {x : D} {ρ ρ1 ρ2 : Env} {o : O} (h1 : bindT tg x ρ = some ρ1) (h2 : ev G CL C e false ρ1 = some (o, ρ2)) (h3 : R o.frz) (h4 : I (wipeS ρ2 tg.slots)) :
    ∃ y ρ', cStep G CL C tg [] e x ρ = some (some y, ρ') ∧ R y ∧ I ρ' := ⟨_, _, cs_0 h1 h2, h3, h4⟩
theorem crel_mk {G : List D} {CL : List (List Nat)} {C : CallF} {tg : Tg} {e : E} {R : D → Prop} {x : D} {ρ ρ1 ρ2 : Env} {o : O} (h1 : bindT tg x ρ = some ρ1) (h2 : ev G CL C e false ρ1 = some (o, ρ2)) (h3 : R o.frz) (h4 : wipeS ρ2 tg.slots = ρ) :
    ∃ y, cStep G CL C tg [] e x ρ = some (some y, ρ) ∧ R y := ⟨_, by rw [cs_0 h1 h2, h4], h3⟩
theorem cmap_mk {G : List D} {CL : List (List Nat)} {C : CallF} {tg : Tg} {e : E} {x y : D} {ρ ρ1 ρ2 : Env} {o : O} (h1 : bindT tg x ρ = some ρ1) (h2 : ev G CL C e false ρ1 = some (o, ρ2)) (h3 : o.frz = y) (h4 : wipeS ρ2 tg.slots = ρ) :
    cStep G CL C tg [] e x ρ = some (some y, ρ) := by rw [cs_0 h1 h2, h3, h4]
theorem w_fe {test : Env → Option (O × Env)} {body : Env → Option (Flow × Env)} {n : Nat} {ρ ρ1 ρ' : Env} (h : test ρ = some (.val (.bl false), ρ1)) (e : ρ1 = ρ') : whileGo test body (n + 1) ρ = some (.nx, ρ') := by subst e; exact w_f h
/-- a row of statements in two parts -/
theorem ss_app {G : List D} {CL : List (List Nat)} {W : Nat} {C : CallF} {R : Option (Flow × Env)} : ∀ {as bs : List S} {ρ ρ1 : Env}, evSs G CL W C as ρ = some (.nx, ρ1) → evSs G CL W C bs ρ1 = R → evSs G CL W C (as ++ bs) ρ = R
  | [], bs, ρ, ρ1, h, k => by cases h; exact k
  | a :: as, bs, ρ, ρ1, h, k => by
    rw [List.cons_append]
    unfold evSs at h ⊢
    cases q : evS G CL W C a ρ with
    | none => rw [q] at h; cases h
    | some p =>
      obtain ⟨fl, ρ2⟩ := p
      rw [q] at h
      cases fl with
      | nx => exact ss_app h k
      | rt o => cases h
      | bk => cases h
      | ct => cases h
theorem atI_ofN {l : List Nat} {i : Int} (h : 0 ≤ i ∧ i < l.length) : ∃ c, atI l i = some c ∧ c ∈ l := by
  obtain ⟨j, rfl⟩ := Int.eq_ofNat_of_zero_le h.1
  have hj : j < l.length := by have := h.2; omega
  exact ⟨l[j], atI_nat (List.getElem?_eq_getElem hj), List.getElem_mem hj⟩
theorem eraseMap {α β : Type} (f : α → β) : ∀ (l : List α) (i : Nat), (l.map f).eraseIdx i = (l.eraseIdx i).map f
  | [], _ => rfl
  | _ :: _, 0 => rfl
  | x :: l, i + 1 => by simp [List.eraseIdx, eraseMap f l i]
/-- a comprehension, each thing with an answer or none -/
theorem c_opt {step : D → Env → Option (Option D × Env)} {ρ : Env} (P : D → Prop) : ∀ (xs : List D), (∀ x ∈ xs, ∃ o : Option D, step x ρ = some (o, ρ) ∧ ∀ y ∈ o, P y) → ∃ ys, compGo step xs ρ = some (ys, ρ) ∧ ys.length ≤ xs.length ∧ ∀ y ∈ ys, P y
  | [], _ => ⟨[], rfl, Nat.le_refl _, by simp⟩
  | x :: xs, h => by
    obtain ⟨o, h1, h2⟩ := h x (by simp)
    obtain ⟨ys, g1, g2, g3⟩ := c_opt P xs fun z hz => h z (by simp [hz])
    refine ⟨o.toList ++ ys, cg_cons h1 g1, by cases o <;> simp <;> omega, fun y hy => ?_⟩
    rcases List.mem_append.mp hy with hy | hy
    · exact h2 y (by simpa using hy)
    · exact g3 y hy
theorem strs_of : ∀ {ys : List D}, (∀ y ∈ ys, ∃ s, y = .str s) → ∃ ss : List Str, ys = ss.map .str
  | [], _ => ⟨[], rfl⟩
  | y :: ys, h => by
    obtain ⟨s, rfl⟩ := h y (by simp)
    obtain ⟨ss, e⟩ := strs_of (ys := ys) fun z hz => h z (by simp [hz])
    exact ⟨s :: ss, by rw [e]; rfl⟩
theorem enum_mem {xs : List D} {k : Nat} {x : D} (h : x ∈ enumL k xs) : ∃ (i : Int) (y : D), x = .tup [.int i, y] ∧ y ∈ xs ∧ (k : Int) ≤ i ∧ i < k + xs.length := by
  obtain ⟨j, hj⟩ := List.getElem?_of_mem h
  obtain ⟨y, h1, rfl⟩ := enumL_get hj
  have := (List.getElem?_eq_some_iff.mp h1).1
  exact ⟨((k + j : Nat) : Int), y, rfl, List.mem_of_getElem? h1, by omega, by omega⟩
theorem F2.pairs {R : D → Prop} : ∀ {ss : List Str} {ys : List D}, F2 (fun (x y : D) => ∃ (s : Str) (k : D), x = .str s ∧ y = .tup [.str s, k] ∧ R k) (ss.map D.str) ys → ∃ fs : List (Str × D), ys = fs.map (fun f => D.tup [.str f.1, f.2]) ∧ fs.length = ss.length ∧ ∀ f ∈ fs, R f.2
  | [], _, h => by cases h; exact ⟨[], rfl, rfl, by simp⟩
  | s :: ss, _, h => by
    cases h with
    | cons h1 h2 =>
      obtain ⟨s', k, e, rfl, hk⟩ := h1
      cases e
      obtain ⟨fs, rfl, h3, h4⟩ := F2.pairs h2
      exact ⟨(s, k) :: fs, rfl, by simp [h3], fun f hf => by
        rcases List.mem_cons.mp hf with rfl | hf
        · exact hk
        · exact h4 f hf⟩
theorem F2.all {R : D → Prop} : ∀ {xs ys : List D}, F2 (fun _ y => R y) xs ys → ∀ y ∈ ys, R y
  | _, _, .nil => by simp
  | _, _, .cons h1 h2 => fun y hy => by
    rcases List.mem_cons.mp hy with rfl | hy
    · exact h1
    · exact F2.all h2 y hy
theorem keys1_strs : ∀ ss : List Str, keys1 (ss.map .str) = some (ss.map Sum.inr)
  | [] => rfl
  | s :: ss => by simp [keys1, key1, keys1_strs ss]
theorem p_ninT {ss : List Str} {kvs : List (List Key × D)} : prim .notin [.tup (ss.map .str), .dctT kvs] = some (.val (.bl !(aget kvs (ss.map Sum.inr)).isSome)) := by
  show (Option.map _ _).map _ = _
  simp [dget, keyT, keys1_strs]
theorem p_get2T {ss : List Str} {kvs : List (List Key × D)} : prim .get2 [.dctT kvs, .tup (ss.map .str), .non] = some (.val ((aget kvs (ss.map Sum.inr)).getD .non)) := by
  show Option.map _ _ = _
  simp [dget, keyT, keys1_strs]
theorem setO_T {ss : List Str} {kvs : List (List Key × D)} {d : D} {fr : List Key → Bool} (h : kvs.length ≤ 1000) (hf : fr (ss.map Sum.inr) = true) : setO fr (.dctT kvs) (.tup (ss.map .str)) d = some (.dctT (aput kvs (ss.map Sum.inr) d)) := by
  show (if _ then _ else _) = _
  rw [if_pos (Nat.lt_of_le_of_lt h (by decide))]
  simp [keyT, keys1_strs, hf]
theorem aget_mem {κ : Type} [DecidableEq κ] {kvs : List (κ × D)} {k : κ} {d : D} (h : aget kvs k = some d) : ∃ kv ∈ kvs, kv.2 = d := by
  obtain ⟨kv, h1, h2⟩ := Option.map_eq_some_iff.mp h
  exact ⟨kv, List.mem_of_find?_eq_some h1, h2⟩
theorem aput_len {κ : Type} [DecidableEq κ] {kvs : List (κ × D)} {k : κ} {d : D} : (aput kvs k d).length ≤ kvs.length + 1 := by
  unfold aput; split <;> simp
theorem aput_mem {κ : Type} [DecidableEq κ] {kvs : List (κ × D)} {k : κ} {d : D} {kv : κ × D} (h : kv ∈ aput kvs k d) : kv ∈ kvs ∨ kv.2 = d := by
  unfold aput at h
  split at h
  · obtain ⟨a, h1, h2⟩ := List.mem_map.mp h
    split at h2
    · subst h2; exact .inr rfl
    · subst h2; exact .inl h1
  · rcases List.mem_append.mp h with h | h
    · exact .inl h
    · simp at h; subst h; exact .inr rfl
theorem sh_bd {i k : Int} (hi : 0 < i ∧ i < 256) (h : 0 ≤ k ∧ k < 32) : 0 < i * 2 ^ k.toNat ∧ i * 2 ^ k.toNat < 2 ^ 64 := by
  obtain ⟨j, rfl⟩ := Int.eq_ofNat_of_zero_le h.1
  have h1 : ∀ j : Nat, j < 32 → (1 : Int) ≤ 2 ^ j ∧ (2 : Int) ^ j ≤ 2 ^ 32 := by decide +kernel
  obtain ⟨h2, h3⟩ := h1 j (by omega)
  rw [Int.toNat_natCast]
  constructor
  · exact Int.mul_pos hi.1 (by omega)
  · have : i * 2 ^ j ≤ 256 * 2 ^ 32 := Int.mul_le_mul (by omega) h3 (by omega) (by omega)
    omega
/-! texts -/
def mkS (l : List Nat) : Str := ⟨l.toArray⟩
theorem mkS_of (s : Str) : mkS s.cps.toList = s := by cases s; simp [mkS]
theorem mkS_cps (l : List Nat) : (mkS l).cps.toList = l := by simp [mkS]
theorem mkS_len (l : List Nat) : (mkS l).length = l.length := by show (mkS l).cps.size = _; simp [mkS]
theorem mkS_app (a b : List Nat) : mkS a ++ mkS b = mkS (a ++ b) := by show Str.append _ _ = _; simp [mkS, Str.append]
theorem mkS_inj {a b : List Nat} (h : mkS a = mkS b) : a = b := by have := congrArg (fun s => s.cps.toList) h; simpa [mkS] using this
theorem p_cat {a b : List Nat} (h : a.length + b.length ≤ 1000) : prim .add [.str (mkS a), .str (mkS b)] = some (.val (.str (mkS (a ++ b)))) := by
  rw [← mkS_app]; exact p_catS (by rw [mkS_len, mkS_len]; exact Nat.le_trans h (by decide))
theorem p_cuth {l : List Nat} {j : Int} (h : l.length ≤ 1000) : prim (.slc false true) [.str (mkS l), .int j] = some (.val (.str (mkS (cutL l none (some j))))) := by
  rw [p_cutSh (by rw [mkS_len]; exact Nat.le_trans h (by decide)), mkS_cps]; rfl
theorem p_cutl {l : List Nat} {j : Int} (h : l.length ≤ 1000) : prim (.slc true false) [.str (mkS l), .int j] = some (.val (.str (mkS (cutL l (some j) none)))) := by
  rw [p_cutSl (by rw [mkS_len]; exact Nat.le_trans h (by decide)), mkS_cps]; rfl
theorem p_lenS {l : List Nat} (h : l.length ≤ 1000) : prim .len [.str (mkS l)] = some (.val (.int l.length)) := by
  show (if _ then _ else _) = _
  rw [if_pos (by rw [mkS_len]; exact Nat.le_trans h (by decide)), mkS_len]; rfl
theorem p_ixs {l : List Nat} {i : Int} {c : Nat} (h : l.length ≤ 1000) (hi : atI l i = some c) : prim .idx [.str (mkS l), .int i] = some (.val (.str (mkS [c]))) :=
  p_ixS (by rw [mkS_len]; exact Nat.le_trans h (by decide)) (by rw [mkS_cps]; exact hi)
theorem cut1 {α : Type} {x : α} {xs : List α} : cutL (x :: xs) (some 1) none = xs := by
  unfold cutL HT.sIx
  simp
/-- small letters -/
def abc : Str := "abcdefghijklmnopqrstuvwxyz"
def Lw (l : List Nat) : Prop := ∀ c ∈ l, 97 ≤ c ∧ c ≤ 122
theorem lw_cut {l : List Nat} {lo hi : Option Int} (h : Lw l) : Lw (cutL l lo hi) := fun c hc => h c (cutL_mem hc)
theorem lw_app {a b : List Nat} (h : Lw a) (h' : Lw b) : Lw (a ++ b) := fun c hc => (List.mem_append.mp hc).elim (h c) (h' c)
theorem lw_one {c : Nat} (h : 97 ≤ c ∧ c ≤ 122) : Lw [c] := fun x hx => by simp at hx; subst hx; exact h
theorem abc_at : ∀ j : Nat, j < 26 → atI abc.cps.toList (j : Int) = some (97 + j : Nat) := by decide +kernel
theorem abc_ix {i : Int} (h : 0 ≤ i ∧ i < 26) : prim .idx [.str "abcdefghijklmnopqrstuvwxyz", .int i] = some (.val (.str (mkS [97 + i.toNat]))) := by
  obtain ⟨j, rfl⟩ := Int.eq_ofNat_of_zero_le h.1
  exact p_ixS (sz_le rfl) (abc_at j (by omega))
theorem abc_occ : ∀ j : Nat, j < 26 → Builtin.Str.occurrences abc (mkS [97 + j]) 0 abc.length 1 = [j] := by decide +kernel
theorem abc_index {c : Nat} (h : 97 ≤ c ∧ c ≤ 122) : prim .sindex [.str "abcdefghijklmnopqrstuvwxyz", .str (mkS [c])] = some (.val (.int ((c - 97 : Nat) : Int))) := by
  have h1 := abc_occ (c - 97) (by omega)
  rw [show 97 + (c - 97) = c by omega] at h1
  show (match Builtin.Str.occurrences abc (mkS [c]) 0 abc.length 1 with | i :: _ => oi (i : Nat) | [] => none) = _
  rw [h1]; rfl
/-- cells: numbers, at least one -/
def Cl (o : O) : Prop := ∃ ns : List Int, o = .lst (ns.map .int) ∧ ns ≠ [] ∧ ns.length ≤ 64
/-- rests that are told -/
def Rs (o : O) : Prop := ∃ kvs : List (List Key × D), o = .dctT kvs ∧ kvs.length ≤ 4 ∧ ∀ kv ∈ kvs, ∃ s, kv.2 = .str s
/-- kinds -/
inductive Kd : Nat → D → Prop
  | num (n : Nat) : Kd n (.tup [.str "num"])
  | truth (n : Nat) : Kd n (.tup [.str "truth"])
  | opn (n : Nat) (s : Str) : Kd n (.tup [.str "open", .str s])
  | shape (n : Nat) (s : Str) (ks : List D) : ks.length ≤ 6 → (∀ k ∈ ks, Kd n k) → Kd (n + 1) (.tup [.str "shape", .str s, .tup ks])
  | shape0 (n : Nat) (s : Str) : Kd n (.tup [.str "shape", .str s, .tup []])
  | recd (n : Nat) (fs : List (Str × D)) (r : D) : fs.length ≤ 7 → (∀ f ∈ fs, Kd n f.2) → (r = .non ∨ ∃ s, r = .str s) → Kd (n + 1) (.tup [.str "rec", .tup (fs.map fun f => .tup [.str f.1, f.2]), r])
  | fn (n : Nat) (a b : D) : Kd n a → Kd n b → Kd (n + 1) (.tup [.str "fun", a, b])
theorem Kd.tup {n : Nat} {d : D} (h : Kd n d) : ∃ xs, d = .tup xs := by cases h <;> exact ⟨_, rfl⟩
/-- terms -/
inductive Tm : Nat → D → Prop
  | num (n : Nat) (i : Int) : Tm n (.tup [.str "num", .int i])
  | truth (n : Nat) (b : Bool) : Tm n (.tup [.str "truth", .bl b])
  | name (n : Nat) (s : Str) : Tm n (.tup [.str "name", .str s])
  | mark (n : Nat) (s : Str) : Tm n (.tup [.str "mark", .str s])
  | fn (n : Nat) (s : Str) (a : D) : Tm n a → Tm (n + 1) (.tup [.str "fun", .str s, a])
  | get (n : Nat) (a : D) (s : Str) : Tm n a → Tm (n + 1) (.tup [.str "get", a, .str s])
  | told (n : Nat) (a k : D) : Tm n a → Kd 3 k → Tm (n + 1) (.tup [.str "told", a, k])
  | lt (n : Nat) (s : Str) (a b : D) : Tm n a → Tm n b → Tm (n + 1) (.tup [.str "let", .str s, a, b])
  | ite (n : Nat) (a b c : D) : Tm n a → Tm n b → Tm n c → Tm (n + 1) (.tup [.str "if", a, b, c])
  | put (n : Nat) (a : D) (s : Str) (b : D) : Tm n a → Tm n b → Tm (n + 1) (.tup [.str "put", a, .str s, b])
  | call (n : Nat) (a b : D) : Tm n a → Tm n b → Tm (n + 1) (.tup [.str "call", a, b])
  | recd (n : Nat) (fs : List (Str × D)) : fs.length ≤ 7 → (∀ f ∈ fs, Tm n f.2) → Tm (n + 1) (.tup [.str "rec", .tup (fs.map fun f => .tup [.str f.1, f.2])])
  | group (n : Nat) (fs : List (Str × D)) (t : D) : fs.length ≤ 7 → (∀ f ∈ fs, Tm n f.2) → Tm n t → Tm (n + 1) (.tup [.str "group", .tup (fs.map fun f => .tup [.str f.1, f.2]), t])
  | mtch (n : Nat) (t : D) (bs : List (Str × List Str × D)) : bs.length ≤ 7 → (∀ b ∈ bs, b.2.1.length ≤ 7) → Tm n t → (∀ b ∈ bs, Tm n b.2.2) → Tm (n + 1) (.tup [.str "match", t, .tup (bs.map fun b => .tup [.str b.1, .tup (b.2.1.map .str), b.2.2])])
theorem Kd.up {n : Nat} {t : D} (h : Kd n t) : Kd (n + 1) t := by
  induction h with
  | num n => exact .num _
  | truth n => exact .truth _
  | opn n s => exact .opn _ s
  | shape n s ks hl _ ih => exact .shape _ s ks hl ih
  | shape0 n s => exact .shape0 _ s
  | recd n fs r hl _ hr ih => exact .recd _ fs r hl ih hr
  | fn n a b _ _ i1 i2 => exact .fn _ a b i1 i2
theorem Kd.le {n m : Nat} {t : D} (h : Kd n t) (l : n ≤ m) : Kd m t := by
  induction l with
  | refl => exact h
  | step _ ih => exact ih.up
theorem Tm.up {n : Nat} {t : D} (h : Tm n t) : Tm (n + 1) t := by
  induction h with
  | num n i => exact .num _ i
  | truth n b => exact .truth _ b
  | name n s => exact .name _ s
  | mark n s => exact .mark _ s
  | fn n s a _ ih => exact .fn _ s a ih
  | get n a s _ ih => exact .get _ a s ih
  | told n a k _ hk ih => exact .told _ a k ih hk
  | lt n s a b _ _ i1 i2 => exact .lt _ s a b i1 i2
  | ite n a b c _ _ _ i1 i2 i3 => exact .ite _ a b c i1 i2 i3
  | put n a s b _ _ i1 i2 => exact .put _ a s b i1 i2
  | call n a b _ _ i1 i2 => exact .call _ a b i1 i2
  | recd n fs hl _ ih => exact .recd _ fs hl ih
  | group n fs t hl _ _ i1 i2 => exact .group _ fs t hl i1 i2
  | mtch n t bs hl hn _ _ i1 i2 => exact .mtch _ t bs hl hn i1 i2
theorem Tm.le {n m : Nat} {t : D} (h : Tm n t) (l : n ≤ m) : Tm m t := by
  induction l with
  | refl => exact h
  | step _ ih => exact ih.up
end EV

namespace EV
open PyProof.Rows PySem L2 PySem.Spec
/-! ### the words of a text -/
def blk (c : Nat) : Bool := decide (c = 32) || decide (c = 10)
/-- the words of a text, one begun -/
def tk : List Nat → List Nat → List (List Nat)
  | acc, [] => if acc = [] then [] else [acc]
  | acc, c :: r => match blk c with
    | true => if acc = [] then tk [] r else acc :: tk [] r
    | false => tk (acc ++ [c]) r
theorem repl_map : ∀ t : List Nat, StrLaws.replL [10] [32] t = t.map fun c => if c = 10 then 32 else c
  | [] => StrLaws.replL_nil
  | c :: r => by
    by_cases h : c = 10
    · subst h
      rw [StrLaws.replL_hit (by simp) (by simp)]
      simp [repl_map r]
    · rw [StrLaws.replL_miss (by simpa using h)]
      simp [repl_map r, h]
theorem spl_tk : ∀ (t acc : List Nat), (TL.spl [32] 0 acc (t.map fun c => if c = 10 then 32 else c)).filter (fun w => decide (w ≠ [])) = tk acc t
  | [], acc => by
    rw [List.map_nil, TL.spl_nil]
    unfold tk
    by_cases h : acc = [] <;> simp [h]
  | c :: r, acc => by
    rw [List.map_cons]
    unfold tk
    by_cases h : blk c = true
    · have e : (if c = 10 then 32 else c) = 32 := by
        unfold blk at h
        simp at h
        rcases h with h | h <;> simp [h]
      rw [e, TL.spl_hit (by simp [TL.pre]), h]
      show List.filter _ (acc :: TL.spl [32] 0 [] _) = _
      rw [List.filter_cons, spl_tk r []]
      by_cases h2 : acc = [] <;> simp [h2]
    · have h' : blk c = false := by simpa using h
      have hc : c ≠ 32 ∧ c ≠ 10 := by
        unfold blk at h'
        simpa using h'
      rw [if_neg hc.2, TL.spl_miss (by simp [TL.pre, hc.1]), h', spl_tk r (acc ++ [c])]
theorem words_split (t : List Nat) : ((Txt.split (Txt.replace (mkS t) "\n" " ") " ").filter fun s => decide (s ≠ ("" : Str))) = (tk [] t).map mkS := by
  have e1 : Txt.replace (mkS t) "\n" " " = mkS (t.map fun c => if c = 10 then 32 else c) := by
    have h := StrLaws.replace_list (x := mkS t) (y := "\n") (z := " ") (by decide)
    rw [← mkS_of (Txt.replace (mkS t) "\n" " "), h, mkS_cps]
    congr 1
    exact repl_map t
  rw [e1]
  have e2 : Txt.split (mkS (t.map fun c => if c = 10 then 32 else c)) " " = (TL.spl [32] 0 [] (t.map fun c => if c = 10 then 32 else c)).map mkS := SX.split_S (b := [32]) (by simp) (by decide)
  rw [e2, ← spl_tk t [], List.filter_map]
  congr 1
  refine List.filter_congr fun w _ => ?_
  have : (mkS w = ("" : Str)) ↔ w = [] := ⟨fun h => mkS_inj (a := w) (b := []) h, fun h => by subst h; rfl⟩
  simp [this]
theorem tk_word : ∀ (w acc r : List Nat), (∀ c ∈ w, blk c = false) → tk acc (w ++ r) = tk (acc ++ w) r
  | [], acc, r, _ => by simp
  | c :: w, acc, r, h => by
    rw [List.cons_append]
    show (match blk c with | true => _ | false => _) = _
    rw [h c (by simp)]
    simp only
    rw [tk_word w (acc ++ [c]) r fun x hx => h x (by simp [hx])]
    simp
theorem tk_blank : ∀ (b r : List Nat), (∀ c ∈ b, blk c = true) → tk [] (b ++ r) = tk [] r
  | [], r, _ => rfl
  | c :: b, r, h => by
    rw [List.cons_append]
    show (match blk c with | true => _ | false => _) = _
    rw [h c (by simp)]
    simp only [if_true]
    exact tk_blank b r fun x hx => h x (by simp [hx])
theorem tk_end : ∀ (b acc : List Nat), (∀ c ∈ b, blk c = true) → acc ≠ [] → tk acc b = [acc]
  | [], acc, _, h => by unfold tk; simp [h]
  | c :: b, acc, hb, h => by
    show (match blk c with | true => _ | false => _) = _
    rw [hb c (by simp)]
    simp only [if_neg h]
    have := tk_blank b [] fun x hx => hb x (by simp [hx])
    rw [List.append_nil] at this
    rw [this]
    rfl
/-- a word, then blanks -/
theorem tk_sep {w b r : List Nat} (hw : ∀ c ∈ w, blk c = false) (h0 : w ≠ []) (hb : ∀ c ∈ b, blk c = true) (h1 : b ≠ []) : tk [] (w ++ (b ++ r)) = w :: tk [] r := by
  rw [tk_word w [] _ hw, List.nil_append]
  match b, h1 with
  | c :: b, _ =>
    rw [List.cons_append]
    show (match blk c with | true => _ | false => _) = _
    rw [hb c (by simp)]
    simp only [if_neg h0]
    rw [tk_blank b r fun x hx => hb x (by simp [hx])]
/-- a comprehension that keeps some -/
theorem c_fil {step : D → Env → Option (Option D × Env)} {ρ : Env} (p : D → Bool) : ∀ xs : List D, (∀ x ∈ xs, step x ρ = some (if p x = true then some x else none, ρ)) → compGo step xs ρ = some (xs.filter p, ρ)
  | [], _ => rfl
  | x :: xs, h => by
    have := cg_cons (h x (by simp)) (c_fil p xs fun z hz => h z (by simp [hz]))
    rw [this]
    by_cases hp : p x = true <;> simp [hp]
end EV

namespace K01
open PyProof.Rows PySem L2 PySem.Spec EV
def topS (i : Nat) : Stmt := PySem.Challenge.pw_kindreach_k01_words_and_names.main.body.getD i (.Pass ⟨0, 0, 0, 0⟩)
def f0 : FnS := ⟨"law", false, 0, ["script"], [false]⟩
def n0 : List Str := ["script", "cells", "row", "k", "text", "turn", "word", "thing", "gained"]
def b0_0 : List S := [.mut .app 2 [.call 3 [.call 2 [.rf 1]]]]
def b0_1 : List S := [.asg 8 (.call 5 [.var 4]), .ite (.or (.not (.op (.isi [3]) [.bw 8])) (.op .ne [.bw 8, .bw 2])) [.ret (.lit (.bl false))] [], .mut .app 8 [.lit (.str "more")]]
def b0_2 : List S := [.ite (.op .ne [.call 6 [.var 6], .call 7 [.var 6]]) [.ret (.lit (.bl false))] []]
def b0_3 : List S := [.ite (.op .ne [.call 6 [.var 7], .lst [.lit (.bl false), .lit (.bl false), .lit (.bl false)]]) [.ret (.lit (.bl false))] []]
/-- law -/
def b0 : List S := [.asg 1 (.call 1 [.var 0]), .asg 2 (.lst []), .for (.one 3) .rng1 [.op .mod [.call 2 [.rf 1], .lit (.int 41)]] b0_0, .asg 4 (.frz (.call 4 [.sh 2, .call 2 [.rf 1]])), .for (.one 5) .rng1 [.lit (.int 2)] b0_1, .for (.one 6) .plain [.op .add [.bw 2, .lst [.lit (.str "")]]] b0_2, .for (.one 7) .plain [.lst [.lit (.non), .lit (.int 0), .lit (.bl true), .tup [.lit (.str "a")], .lst [.lit (.str "a")], .lit (.int 7), .lit (.str "a b"), .lit (.str " a"), .lit (.str "a\n")]] b0_3, .ret (.call 8 [])]
def f1 : FnS := ⟨"_law_deck", false, 0, ["script"], [false]⟩
def n1 : List Str := ["script", "cells"]
/-- _law_deck -/
def b1 : List S := [.asg 1 (.frz (.op .add [.op .list [.op (.slc false true) [.var 0, .lit (.int 63)]], .lst [.lit (.int 7)]])), .ite (.op .eq [.op .mod [.op .idx [.var 1, .lit (.int 0)], .lit (.int 2)], .lit (.int 1)]) [.ret (.op .add [.lst [.op .fdiv [.op .idx [.var 1, .lit (.int 0)], .lit (.int 2)]], .op (.slc true false) [.var 1, .lit (.int 1)]])] [], .ret (.lst [.call 9 [.op .add [.op .fdiv [.op .idx [.var 1, .lit (.int 0)], .lit (.int 2)], .op .sum [.op (.slc true false) [.var 1, .lit (.int 1)]]]]])]
def f2 : FnS := ⟨"_law_next", false, 0, ["cells"], [true]⟩
def n2 : List Str := ["cells", "cell"]
/-- _law_next -/
def b2 : List S := [.asg 1 (.frz (.popAt 0 (.lit (.int 0)))), .ite (.op .eq [.bw 0, .lst []]) [.mut .app 0 [.call 9 [.op .add [.var 1, .lit (.int 1)]]]] [], .ret (.var 1)]
def f3 : FnS := ⟨"_law_drawn", false, 0, ["cell"], [false]⟩
def n3 : List Str := ["cell", "some", "number", "word", "k"]
def b3_0 : List S := [.asg 3 (.frz (.op .add [.var 3, .op .idx [.call 11 [], .op .mod [.op .fdiv [.var 2, .lit (.int 9)], .lit (.int 93)]]])), .asg 2 (.frz (.op .fdiv [.var 2, .lit (.int 93)]))]
/-- _law_drawn -/
def b3 : List S := [.asg 1 (.lit (.str "fun let group and in if get put match told yes no num truth ")), .asg 1 (.frz (.op .add [.var 1, .lit (.str "module use shape class house for when is end out shown hidden ")])), .asg 1 (.frz (.op .add [.var 1, .lit (.str "-> => { } ( ) | , : = < > [ ] ? 0 7 00 a ab A Aa AB a1 a12345 a1234 1a")])), .asg 1 (.frz (.mop .split (.var 1) [.lit (.str " ")])), .asg 2 (.frz (.op .fdiv [.var 0, .lit (.int 8)])), .ite (.op .lt [.op .mod [.var 0, .lit (.int 8)], .lit (.int 3)]) [.ret (.op .idx [.var 1, .op .mod [.var 2, .op .len [.var 1]]])] [], .ite (.op .eq [.op .mod [.var 0, .lit (.int 8)], .lit (.int 3)]) [.ret (.op .add [.op .add [.op (.slc false true) [.mop .upper (.call 10 [.var 2]) [], .lit (.int 1)], .op (.slc true false) [.call 10 [.var 2], .lit (.int 1)]], .op .mul [.lit (.str "x"), .op .fdiv [.op .mod [.op .fdiv [.var 2, .lit (.int 8)], .lit (.int 5)], .lit (.int 4)]]])] [], .ite (.op .eq [.op .mod [.var 0, .lit (.int 8)], .lit (.int 4)]) [.ret (.op .add [.op .idx [.lit (.str "abcdefghijklmnopqrstuvwxyz"), .op .mod [.var 2, .lit (.int 26)]], .op (.slc true false) [.op .str [.op .mod [.op .fdiv [.var 2, .lit (.int 26)], .op .pow [.lit (.int 10), .lit (.int 5)]]], .op .mod [.op .fdiv [.var 2, .lit (.int 26)], .lit (.int 2)]]])] [], .ite (.op .eq [.op .mod [.var 0, .lit (.int 8)], .lit (.int 5)]) [.asg 3 (.lit (.str "")), .for (.one 4) .rng1 [.op .add [.lit (.int 1), .op .mod [.var 2, .lit (.int 9)]]] b3_0, .ret (.var 3)] [], .ret (.op .add [.call 10 [.var 2], .op (.slc false true) [.lit (.str "ab"), .op .fdiv [.op .mod [.var 2, .lit (.int 24)], .lit (.int 22)]]])]
def f4 : FnS := ⟨"_law_spaced", false, 0, ["row", "cell"], [false, false]⟩
def n4 : List Str := ["row", "cell", "text", "k", "word"]
def b4_0 : List S := [.asg 2 (.frz (.op .add [.var 2, .var 4])), .ite (.op .lt [.op .add [.var 3, .lit (.int 1)], .op .len [.var 0]]) [.asg 2 (.frz (.op .add [.var 2, .op .idx [.lst [.lit (.str " "), .lit (.str " "), .lit (.str "\n"), .lit (.str "  "), .lit (.str " \n "), .lit (.str " ")], .op .mod [.op .mod [.op .fdiv [.var 1, .lit (.int 9)], .op .add [.var 3, .lit (.int 2)]], .lit (.int 6)]]]))] []]
/-- _law_spaced -/
def b4 : List S := [.asg 2 (.frz (.op .idx [.lst [.lit (.str ""), .lit (.str " "), .lit (.str "\n")], .op .mod [.var 1, .lit (.int 3)]])), .for (.many [3, 4]) .enum [.var 0] b4_0, .ret (.op .add [.var 2, .op .idx [.lst [.lit (.str ""), .lit (.str " "), .lit (.str "\n\n")], .op .mod [.op .fdiv [.var 1, .lit (.int 3)], .lit (.int 3)]]])]
def f5 : FnS := ⟨"words", false, 0, ["text"], [false]⟩
def n5 : List Str := ["text", "word"]
/-- words -/
def b5 : List S := [.ret wordsE]
def f6 : FnS := ⟨"_law_told", false, 0, ["thing"], [false]⟩
def n6 : List Str := ["thing", "gained", "one"]
def e6_0 : E := .var 2
/-- _law_told -/
def b6 : List S := [.asg 1 (.frz (.lst [.call 12 [.var 0], .call 13 [.var 0], .call 14 [.var 0]])), .ite (.op .ne [.comp (.one 2) .plain [.var 1] [.not (.op (.isi [4]) [.var 2])] e6_0, .lst []]) [.ret (.lit (.non))] [], .ret (.var 1)]
def f7 : FnS := ⟨"_law_due", false, 0, ["word"], [false]⟩
def n7 : List Str := ["word", "name", "great", "figures", "sign"]
def e7_0 : E := .var 4
/-- _law_due -/
def b7 : List S := [.asg 1 (.and (.cmp2 .le .le (.lit (.int 1)) (.op .len [.var 0]) (.lit (.int 8))) (.and (.call 16 [.var 0]) (.not (.call 15 [.var 0])))), .asg 2 (.and (.op .isin [.op (.slc false true) [.var 0, .lit (.int 1)], .lit (.str "ABCDEFGHIJKLMNOPQRSTUVWXYZ")]) (.call 16 [.op (.slc true false) [.var 0, .lit (.int 1)]])), .asg 3 (.op .eq [.comp (.one 4) .plain [.op (.slc true false) [.var 0, .lit (.int 1)]] [.op .notin [.var 4, .lit (.str "0123456789")]] e7_0, .lst []]), .ret (.lst [.var 1, .and (.cmp2 .le .le (.lit (.int 1)) (.op .len [.var 0]) (.lit (.int 8))) (.var 2), .and (.cmp2 .le .le (.lit (.int 1)) (.op .len [.var 0]) (.lit (.int 5))) (.and (.call 16 [.op (.slc false true) [.var 0, .lit (.int 1)]]) (.var 3))])]
def f8 : FnS := ⟨"_law_signs_right", false, 0, [], []⟩
def n8 : List Str := ["sign", "word"]
def b8_0 : List S := [.ite (.op .ne [.call 6 [.var 1], .call 7 [.var 1]]) [.ret (.lit (.bl false))] []]
def b8_1 : List S := [.ite (.op .ne [.call 5 [.op .add [.op .add [.op .add [.op .add [.var 0, .lit (.str " a")], .var 0], .lit (.str "b\n")], .var 0]], .lst [.var 0, .op .add [.op .add [.lit (.str "a"), .var 0], .lit (.str "b")], .var 0]]) [.ret (.lit (.bl false))] [], .for (.one 1) .plain [.tup [.var 0, .op .add [.lit (.str "a"), .var 0], .op .add [.lit (.str "A"), .var 0], .op .add [.op .add [.lit (.str "ab"), .var 0], .lit (.str "c")]]] b8_0]
/-- _law_signs_right -/
def b8 : List S := [.for (.one 0) .plain [.call 11 []] b8_1, .ret (.lit (.bl true))]
def f9 : FnS := ⟨"_law_wide", false, 0, ["number"], [false]⟩
def n9 : List Str := ["number", "gained", "j"]
def b9_0 : List S := [.asg 0 (.frz (.op .mod [.op .add [.op .add [.op .mul [.var 0, .lit (.int 48271)], .op .mul [.op .mul [.lit (.int 7919), .var 2], .var 2]], .lit (.int 11)], .lit (.int 2147483647)])), .asg 1 (.frz (.op .add [.op .mul [.var 1, .op .pow [.lit (.int 10), .lit (.int 9)]], .op .mod [.op .mod [.op .mul [.var 0, .lit (.int 69621)], .lit (.int 2147483629)], .op .pow [.lit (.int 10), .lit (.int 9)]]]))]
/-- _law_wide -/
def b9 : List S := [.asg 1 (.lit (.int 0)), .asg 0 (.frz (.op .mod [.var 0, .lit (.int 2147483647)])), .for (.one 2) .rng1 [.lit (.int 7)] b9_0, .ret (.var 1)]
def f10 : FnS := ⟨"_law_word", false, 0, ["cell"], [false]⟩
def n10 : List Str := ["cell", "letters", "word", "size", "number", "k"]
def b10_0 : List S := [.asg 2 (.frz (.op .add [.var 2, .op .idx [.var 1, .op .mod [.var 4, .lit (.int 26)]]])), .asg 4 (.frz (.op .fdiv [.var 4, .lit (.int 26)]))]
/-- _law_word -/
def b10 : List S := [.asg 1 (.lit (.str "abcdefghijklmnopqrstuvwxyz")), .asg 2 (.lit (.str "")), .asg 3 (.frz (.op .add [.lit (.int 1), .op .mod [.var 0, .lit (.int 8)]])), .asg 4 (.frz (.op .fdiv [.var 0, .lit (.int 8)])), .for (.one 5) .rng1 [.var 3] b10_0, .ret (.var 2)]
def f11 : FnS := ⟨"_law_signs", false, 0, [], []⟩
def n11 : List Str := ["small"]
/-- _law_signs -/
def b11 : List S := [.asg 0 (.lit (.str "abcdefghijklmnopqrstuvwxyz")), .ret (.op .add [.op .add [.lit (.str "!\"#$&'()*+,-./0123456789:;<=>?\x40[\\]^_`{|}~"), .var 0], .mop .upper (.var 0) []])]
def f12 : FnS := ⟨"is_name", false, 0, ["thing"], [false]⟩
def n12 : List Str := ["thing"]
/-- is_name -/
def b12 : List S := [.ite (.or (.not (.op (.isi [0]) [.var 0])) (.not (.cmp2 .le .le (.lit (.int 1)) (.op .len [.var 0]) (.glob 0)))) [.ret (.lit (.bl false))] [], .ret (.and (.call 17 [.var 0, .glob 3]) (.and (.op .notin [.var 0, .glob 2]) (.op .notin [.var 0, .glob 1])))]
def f13 : FnS := ⟨"is_mark", false, 0, ["thing"], [false]⟩
def n13 : List Str := ["thing"]
/-- is_mark -/
def b13 : List S := [.ite (.or (.not (.op (.isi [0]) [.var 0])) (.not (.cmp2 .le .le (.lit (.int 1)) (.op .len [.var 0]) (.glob 0)))) [.ret (.lit (.bl false))] [], .ret (.and (.op .isin [.op .idx [.var 0, .lit (.int 0)], .glob 4]) (.call 17 [.op (.slc true false) [.var 0, .lit (.int 1)], .glob 3]))]
def f14 : FnS := ⟨"is_open", false, 0, ["thing"], [false]⟩
def n14 : List Str := ["thing"]
/-- is_open -/
def b14 : List S := [.ite (.or (.not (.op (.isi [0]) [.var 0])) (.not (.cmp2 .le .le (.lit (.int 1)) (.op .len [.var 0]) (.op .add [.lit (.int 1), .glob 5])))) [.ret (.lit (.bl false))] [], .ret (.and (.op .isin [.op .idx [.var 0, .lit (.int 0)], .glob 3]) (.call 17 [.op (.slc true false) [.var 0, .lit (.int 1)], .glob 6]))]
def f15 : FnS := ⟨"_law_barred", false, 0, ["word"], [false]⟩
def n15 : List Str := ["word", "some"]
/-- _law_barred -/
def b15 : List S := [.asg 1 (.lit (.str "fun let group and in if get put match told yes no num truth ")), .asg 1 (.frz (.op .add [.var 1, .lit (.str "module use shape class house for when is end out shown hidden")])), .ret (.op .isin [.var 0, .mop .split (.var 1) [.lit (.str " ")]])]
def f16 : FnS := ⟨"_law_is_small", false, 0, ["word"], [false]⟩
def n16 : List Str := ["word", "sign"]
def e16_0 : E := .var 1
/-- _law_is_small -/
def b16 : List S := [.ret (.op .eq [.comp (.one 1) .plain [.var 0] [.op .notin [.var 1, .lit (.str "abcdefghijklmnopqrstuvwxyz")]] e16_0, .lst []])]
def f17 : FnS := ⟨"all_in", false, 0, ["text", "signs"], [false, false]⟩
def n17 : List Str := ["text", "signs", "sign"]
def e17_0 : E := .op .isin [.var 2, .var 1]
/-- all_in -/
def b17 : List S := [.ret (.op .all [.comp (.one 2) .plain [.var 0] [] e17_0])]
def T : Stat := ⟨["MOST_SIGNS", "BARRED_IN_MODULES", "BARRED", "LETTERS", "GREAT", "MOST_FIGURES", "FIGURES"], [f0, f1, f2, f3, f4, f5, f6, f7, f8, f9, f10, f11, f12, f13, f14, f15, f16, f17], [], []⟩
def B : Tab := ⟨[.int 8, .tup [.str "module", .str "use", .str "shape", .str "class", .str "house", .str "for", .str "when", .str "is", .str "end", .str "out", .str "shown", .str "hidden"], .tup [.str "fun", .str "let", .str "group", .str "and", .str "in", .str "if", .str "get", .str "put", .str "match", .str "told", .str "yes", .str "no", .str "num", .str "truth"], .str "abcdefghijklmnopqrstuvwxyz", .str "ABCDEFGHIJKLMNOPQRSTUVWXYZ", .int 4, .str "0123456789"], [], 200, [⟨1, 9, none, b0⟩, ⟨1, 2, none, b1⟩, ⟨1, 2, none, b2⟩, ⟨1, 5, none, b3⟩, ⟨2, 5, none, b4⟩, ⟨1, 2, none, b5⟩, ⟨1, 3, none, b6⟩, ⟨1, 5, none, b7⟩, ⟨0, 2, none, b8⟩, ⟨1, 3, none, b9⟩, ⟨1, 6, none, b10⟩, ⟨0, 1, none, b11⟩, ⟨1, 1, none, b12⟩, ⟨1, 1, none, b13⟩, ⟨1, 1, none, b14⟩, ⟨1, 2, none, b15⟩, ⟨1, 2, none, b16⟩, ⟨2, 3, none, b17⟩]⟩
theorem m0 : fnB T B 0 f0 n0 b0 (topS 26) = true := by decide +kernel
theorem m1 : fnB T B 1 f1 n1 b1 (topS 16) = true := by decide +kernel
theorem m2 : fnB T B 2 f2 n2 b2 (topS 15) = true := by decide +kernel
theorem m3 : fnB T B 3 f3 n3 b3 (topS 22) = true := by decide +kernel
theorem m4 : fnB T B 4 f4 n4 b4 (topS 19) = true := by decide +kernel
theorem m5 : fnB T B 5 f5 n5 b5 (topS 8) = true := by decide +kernel
theorem m6 : fnB T B 6 f6 n6 b6 (topS 25) = true := by decide +kernel
theorem m7 : fnB T B 7 f7 n7 b7 (topS 24) = true := by decide +kernel
theorem m8 : fnB T B 8 f8 n8 b8 (topS 21) = true := by decide +kernel
theorem m9 : fnB T B 9 f9 n9 b9 (topS 14) = true := by decide +kernel
theorem m10 : fnB T B 10 f10 n10 b10 (topS 17) = true := by decide +kernel
theorem m11 : fnB T B 11 f11 n11 b11 (topS 20) = true := by decide +kernel
theorem m12 : fnB T B 12 f12 n12 b12 (topS 10) = true := by decide +kernel
theorem m13 : fnB T B 13 f13 n13 b13 (topS 11) = true := by decide +kernel
theorem m14 : fnB T B 14 f14 n14 b14 (topS 12) = true := by decide +kernel
theorem m15 : fnB T B 15 f15 n15 b15 (topS 18) = true := by decide +kernel
theorem m16 : fnB T B 16 f16 n16 b16 (topS 23) = true := by decide +kernel
theorem m17 : fnB T B 17 f17 n17 b17 (topS 9) = true := by decide +kernel
set_option maxHeartbeats 0
theorem wide_ok (m : Nat) (hm : 1 ≤ m) (i : Int) : ∃ r q, evF B m 9 [.val (.int i)] = some (.val (.int r), [some (.val (.int q))]) := by
  obtain ⟨m, rfl⟩ : ∃ k, m = k + 1 := ⟨m - 1, by omega⟩
  obtain ⟨ρ', hl, q, g, x, _, rfl⟩ := f_st (bd := bindT (.one 2)) (body := evSs B.G B.CL B.W (evF B m) b9_0) (fun ρ => ∃ q g x, (0 ≤ q ∧ q < 2147483647) ∧ ρ = [some (.val (.int q)), some (.val (.int g)), x]) (rngL 0 7) [some (.val (.int (i % 2147483647))), some (.val (.int 0)), none] ⟨_, _, _, ⟨Int.emod_nonneg _ (by omega), Int.emod_lt_of_pos _ (by omega)⟩, rfl⟩ (by
    rintro x hx ρ ⟨q, g, y, hq, rfl⟩
    obtain ⟨j, rfl, h0, h1⟩ := rngL_mem hx
    apply st_mk
    · rfl
    · unfold b9_0
      repeat (first | (focus (with_reducible show getS _ _ = _); rfl) | (focus (with_reducible show ev _ _ _ _ false _ = _); first | with_reducible apply r_var | with_reducible exact r_lit | with_reducible apply r_op | with_reducible apply r_callE | with_reducible apply r_tup | with_reducible apply r_frz | with_reducible apply r_and | with_reducible apply r_or | with_reducible apply r_not | with_reducible apply (r_mop rfl) | with_reducible apply r_mopB | with_reducible apply r_lst | with_reducible apply r_mv | with_reducible apply r_sh | with_reducible apply r_glob | with_reducible apply r_cmp2 | with_reducible apply r_ite | with_reducible apply r_bw | with_reducible apply r_meth | with_reducible apply r_new | with_reducible apply r_pop | with_reducible apply r_popAt | with_reducible exact r_dct | with_reducible exact r_dctT | with_reducible apply r_dctOf) | (focus (with_reducible show ev _ _ _ _ true _ = _); first | with_reducible apply t_op | with_reducible apply t_call | with_reducible apply r_and | with_reducible apply r_or | with_reducible apply r_not | with_reducible apply t_var | with_reducible apply t_bw | with_reducible apply r_cmp2 | with_reducible apply t_mop | with_reducible apply t_meth | with_reducible apply t_lit) | (focus (with_reducible show evO _ _ _ _ _ = _); first | with_reducible apply (o_cons rfl) | with_reducible exact o_nil | with_reducible apply o_bw | rfl) | (focus (with_reducible show prim _ _ = _); first | (focus (with_reducible show prim .mod _ = _); exact p_mod (by omega)) | (focus (with_reducible show prim .fdiv _ = _); exact p_fdiv ⟨by omega, by omega⟩) | (focus (with_reducible show prim .mul _ = _); first | exact p_mul2 ⟨by omega, by omega⟩ | exact p_mul1 ⟨by omega, by omega⟩) | exact p_pow9 | rfl) | (focus (with_reducible show O.frz _ = _); rfl) | (focus (with_reducible show truth _ = _); rfl) | (focus (with_reducible show evV _ _ _ _ _ = _); first | with_reducible apply v_cons | with_reducible exact v_nil | rfl) | (focus (with_reducible show evS _ _ _ _ _ _ = _); first | with_reducible apply s_asg | with_reducible apply s_ite | with_reducible apply s_ret | with_reducible apply s_for | with_reducible apply s_app | with_reducible apply s_setI | with_reducible apply s_expr | with_reducible apply s_unp | with_reducible apply s_aug | with_reducible apply s_while | with_reducible apply s_ext | with_reducible apply s_rev | with_reducible exact s_retN | with_reducible exact s_pass | with_reducible exact s_brk | with_reducible exact s_cont) | (focus (with_reducible show evSs _ _ _ _ _ _ = _); first | with_reducible apply ss_cons | with_reducible exact ss_nil | rfl) | (focus (with_reducible show flK _ _ _ = _); first | with_reducible apply fl_nx | with_reducible exact fl_rt | with_reducible exact fl_bk | with_reducible exact fl_ct | exact fl_rt) | (focus (with_reducible show evA _ _ _ _ _ = _); first | with_reducible apply (a_cons rfl) | with_reducible apply a_rf | with_reducible exact a_nil | with_reducible apply a_fr | rfl) | (focus (with_reducible show takeA _ _ _ = _); rfl) | (focus (with_reducible show giveA _ _ _ = _); rfl) | ((with_reducible apply cond_t); focus (first | rfl | assumption | (simp [*]; done))) | ((with_reducible apply cond_f); focus (first | rfl | assumption | (simp [*]; done))) | (focus (with_reducible show rcv _ _ = _); rfl) | (focus (with_reducible show iterD _ _ = _); rfl) | (focus (with_reducible show plainS _ _ = _); rfl) | (focus (with_reducible show bindT _ _ _ = _); rfl) | (focus (with_reducible show setO _ _ _ _ = _); rfl) | (focus (with_reducible show getElem? _ _ = _); rfl) | (focus (with_reducible show some _ = some _); rfl) | (focus (with_reducible show fgK _ _ _ = _); first | with_reducible apply fg_nx | with_reducible apply fg_ct | with_reducible exact fg_bk | with_reducible exact fg_rt | exact fg_rt) | (focus (with_reducible show forGo _ _ _ _ = _); first | with_reducible exact f_nil | with_reducible apply f_cons) | (focus (with_reducible show _ ≤ sizeLine); first | exact sz_le rfl | exact sz_leO (by first | omega | (simp; done) | (simp; omega))) | (focus (with_reducible show _ < sizeLine); first | exact sz_lt rfl | exact sz_ltO (by first | omega | (simp; done) | (simp; omega))) | (focus (with_reducible show ixN _ _ = _); first | exact ix0 | rfl) | (focus (with_reducible show -(2 ^ 63) ≤ _ ∧ _ < 2 ^ 63); exact ⟨by omega, by omega⟩) | with_reducible apply r_cmp2z | (focus (with_reducible show List.length _ = _); rfl) | (focus (with_reducible show List.getLast? _ = _); rfl))
    · exact ⟨_, _, _, ⟨Int.emod_nonneg _ (by omega), Int.emod_lt_of_pos _ (by omega)⟩, rfl⟩)
  refine ⟨g, q, ?_⟩
  apply r_fn (F := ⟨1, 3, none, b9⟩) rfl rfl
  · unfold b9
    dsimp only
    repeat (first | (focus (with_reducible show getS _ _ = _); rfl) | (focus (with_reducible show ev _ _ _ _ false _ = _); first | with_reducible apply r_var | with_reducible exact r_lit | with_reducible apply r_op | with_reducible apply r_callE | with_reducible apply r_tup | with_reducible apply r_frz | with_reducible apply r_and | with_reducible apply r_or | with_reducible apply r_not | with_reducible apply (r_mop rfl) | with_reducible apply r_mopB | with_reducible apply r_lst | with_reducible apply r_mv | with_reducible apply r_sh | with_reducible apply r_glob | with_reducible apply r_cmp2 | with_reducible apply r_ite | with_reducible apply r_bw | with_reducible apply r_meth | with_reducible apply r_new | with_reducible apply r_pop | with_reducible apply r_popAt | with_reducible exact r_dct | with_reducible exact r_dctT | with_reducible apply r_dctOf) | (focus (with_reducible show ev _ _ _ _ true _ = _); first | with_reducible apply t_op | with_reducible apply t_call | with_reducible apply r_and | with_reducible apply r_or | with_reducible apply r_not | with_reducible apply t_var | with_reducible apply t_bw | with_reducible apply r_cmp2 | with_reducible apply t_mop | with_reducible apply t_meth | with_reducible apply t_lit) | (focus (with_reducible show evO _ _ _ _ _ = _); first | with_reducible apply (o_cons rfl) | with_reducible exact o_nil | with_reducible apply o_bw | rfl) | (focus (with_reducible show prim _ _ = _); first | (focus (with_reducible show prim .mod _ = _); exact p_mod (by omega)) | (focus (with_reducible show prim .fdiv _ = _); exact p_fdiv ⟨by omega, by omega⟩) | (focus (with_reducible show prim .mul _ = _); first | exact p_mul2 ⟨by omega, by omega⟩ | exact p_mul1 ⟨by omega, by omega⟩) | rfl) | (focus (with_reducible show O.frz _ = _); rfl) | (focus (with_reducible show truth _ = _); rfl) | (focus (with_reducible show evV _ _ _ _ _ = _); first | with_reducible apply v_cons | with_reducible exact v_nil | rfl) | (focus (with_reducible show evS _ _ _ _ _ _ = _); first | with_reducible apply s_asg | with_reducible apply s_ite | with_reducible apply s_ret | with_reducible apply s_for | with_reducible apply s_app | with_reducible apply s_setI | with_reducible apply s_expr | with_reducible apply s_unp | with_reducible apply s_aug | with_reducible apply s_while | with_reducible apply s_ext | with_reducible apply s_rev | with_reducible exact s_retN | with_reducible exact s_pass | with_reducible exact s_brk | with_reducible exact s_cont) | (focus (with_reducible show evSs _ _ _ _ _ _ = _); first | with_reducible apply ss_cons | with_reducible exact ss_nil | rfl) | (focus (with_reducible show flK _ _ _ = _); first | with_reducible apply fl_nx | with_reducible exact fl_rt | with_reducible exact fl_bk | with_reducible exact fl_ct | exact fl_rt) | (focus (with_reducible show evA _ _ _ _ _ = _); first | with_reducible apply (a_cons rfl) | with_reducible apply a_rf | with_reducible exact a_nil | with_reducible apply a_fr | rfl) | (focus (with_reducible show takeA _ _ _ = _); rfl) | (focus (with_reducible show giveA _ _ _ = _); rfl) | ((with_reducible apply cond_t); focus (first | rfl | assumption | (simp [*]; done))) | ((with_reducible apply cond_f); focus (first | rfl | assumption | (simp [*]; done))) | (focus (with_reducible show forGo _ _ _ _ = _); exact hl) | (focus (with_reducible show iterD .rng1 _ = _); exact it1 (by omega)) | (focus (with_reducible show rcv _ _ = _); rfl) | (focus (with_reducible show iterD _ _ = _); rfl) | (focus (with_reducible show plainS _ _ = _); rfl) | (focus (with_reducible show bindT _ _ _ = _); rfl) | (focus (with_reducible show setO _ _ _ _ = _); rfl) | (focus (with_reducible show getElem? _ _ = _); rfl) | (focus (with_reducible show some _ = some _); rfl) | (focus (with_reducible show fgK _ _ _ = _); first | with_reducible apply fg_nx | with_reducible apply fg_ct | with_reducible exact fg_bk | with_reducible exact fg_rt | exact fg_rt) | (focus (with_reducible show forGo _ _ _ _ = _); first | with_reducible exact f_nil | with_reducible apply f_cons) | (focus (with_reducible show _ ≤ sizeLine); first | exact sz_le rfl | exact sz_leO (by first | omega | (simp; done) | (simp; omega))) | (focus (with_reducible show _ < sizeLine); first | exact sz_lt rfl | exact sz_ltO (by first | omega | (simp; done) | (simp; omega))) | (focus (with_reducible show ixN _ _ = _); first | exact ix0 | rfl) | (focus (with_reducible show -(2 ^ 63) ≤ _ ∧ _ < 2 ^ 63); exact ⟨by omega, by omega⟩) | with_reducible apply r_cmp2z | (focus (with_reducible show List.length _ = _); rfl) | (focus (with_reducible show List.getLast? _ = _); rfl))
  · rfl
theorem next_ok (m : Nat) (hm : 2 ≤ m) {c : O} (hc : Cl c) : ∃ i c', evF B m 2 [c] = some (.val (.int i), [some c']) ∧ Cl c' := by
  obtain ⟨m, rfl⟩ : ∃ k, m = k + 1 := ⟨m - 1, by omega⟩
  obtain ⟨ns, rfl, h0, h1⟩ := hc
  match ns, h0, h1 with
  | [i], _, _ =>
    obtain ⟨w, q, hw⟩ := wide_ok m (by omega) (i + 1)
    refine ⟨i, .lst [.int w], ?_, [w], rfl, by simp, by simp⟩
    apply r_fn (F := ⟨1, 2, none, b2⟩) rfl rfl
    · unfold b2
      dsimp only
      repeat (first | (focus (with_reducible show getS _ _ = _); rfl) | (focus (with_reducible show ev _ _ _ _ false _ = _); first | with_reducible apply r_var | with_reducible exact r_lit | with_reducible apply r_op | with_reducible apply r_callE | with_reducible apply r_tup | with_reducible apply r_frz | with_reducible apply r_and | with_reducible apply r_or | with_reducible apply r_not | with_reducible apply (r_mop rfl) | with_reducible apply r_mopB | with_reducible apply r_lst | with_reducible apply r_mv | with_reducible apply r_sh | with_reducible apply r_glob | with_reducible apply r_cmp2 | with_reducible apply r_ite | with_reducible apply r_bw | with_reducible apply r_meth | with_reducible apply r_new | with_reducible apply r_pop | with_reducible apply r_popAt | with_reducible exact r_dct | with_reducible exact r_dctT | with_reducible apply r_dctOf) | (focus (with_reducible show ev _ _ _ _ true _ = _); first | with_reducible apply t_op | with_reducible apply t_call | with_reducible apply r_and | with_reducible apply r_or | with_reducible apply r_not | with_reducible apply t_var | with_reducible apply t_bw | with_reducible apply r_cmp2 | with_reducible apply t_mop | with_reducible apply t_meth | with_reducible apply t_lit) | (focus (with_reducible show evO _ _ _ _ _ = _); first | with_reducible apply (o_cons rfl) | with_reducible exact o_nil | with_reducible apply o_bw | rfl) | (focus (with_reducible show prim _ _ = _); first | (focus (with_reducible show prim .mod _ = _); exact p_mod (by omega)) | (focus (with_reducible show prim .fdiv _ = _); exact p_fdiv ⟨by omega, by omega⟩) | (focus (with_reducible show prim .mul _ = _); first | exact p_mul2 ⟨by omega, by omega⟩ | exact p_mul1 ⟨by omega, by omega⟩) | exact eq_nil [] | rfl) | (focus (with_reducible show O.frz _ = _); rfl) | (focus (with_reducible show truth _ = _); rfl) | (focus (with_reducible show evV _ _ _ _ _ = _); first | with_reducible apply v_cons | with_reducible exact v_nil | rfl) | (focus (with_reducible show evS _ _ _ _ _ _ = _); first | with_reducible apply s_asg | with_reducible apply s_ite | with_reducible apply s_ret | with_reducible apply s_for | with_reducible apply s_app | with_reducible apply s_setI | with_reducible apply s_expr | with_reducible apply s_unp | with_reducible apply s_aug | with_reducible apply s_while | with_reducible apply s_ext | with_reducible apply s_rev | with_reducible exact s_retN | with_reducible exact s_pass | with_reducible exact s_brk | with_reducible exact s_cont) | (focus (with_reducible show evSs _ _ _ _ _ _ = _); first | with_reducible apply ss_cons | with_reducible exact ss_nil | rfl) | (focus (with_reducible show flK _ _ _ = _); first | with_reducible apply fl_nx | with_reducible exact fl_rt | with_reducible exact fl_bk | with_reducible exact fl_ct | exact fl_rt) | (focus (with_reducible show evA _ _ _ _ _ = _); first | with_reducible apply (a_cons rfl) | with_reducible apply a_rf | with_reducible exact a_nil | with_reducible apply a_fr | rfl) | (focus (with_reducible show evF _ _ _ _ = _); first | (focus (with_reducible show evF _ _ 9 _ = _);  exact hw)) | (focus (with_reducible show takeA _ _ _ = _); rfl) | (focus (with_reducible show giveA _ _ _ = _); rfl) | ((with_reducible apply cond_t); focus (first | rfl | assumption | (simp [*]; done))) | ((with_reducible apply cond_f); focus (first | rfl | assumption | (simp [*]; done))) | (focus (with_reducible show rcv _ _ = _); rfl) | (focus (with_reducible show iterD _ _ = _); rfl) | (focus (with_reducible show plainS _ _ = _); rfl) | (focus (with_reducible show bindT _ _ _ = _); rfl) | (focus (with_reducible show setO _ _ _ _ = _); rfl) | (focus (with_reducible show getElem? _ _ = _); rfl) | (focus (with_reducible show some _ = some _); rfl) | (focus (with_reducible show fgK _ _ _ = _); first | with_reducible apply fg_nx | with_reducible apply fg_ct | with_reducible exact fg_bk | with_reducible exact fg_rt | exact fg_rt) | (focus (with_reducible show forGo _ _ _ _ = _); first | with_reducible exact f_nil | with_reducible apply f_cons) | (focus (with_reducible show _ ≤ sizeLine); first | exact sz_le rfl | exact sz_leO (by first | omega | (simp; done) | (simp; omega))) | (focus (with_reducible show _ < sizeLine); first | exact sz_lt rfl | exact sz_ltO (by first | omega | (simp; done) | (simp; omega))) | (focus (with_reducible show ixN _ _ = _); first | exact ix0 | rfl) | (focus (with_reducible show -(2 ^ 63) ≤ _ ∧ _ < 2 ^ 63); exact ⟨by omega, by omega⟩) | with_reducible apply r_cmp2z | (focus (with_reducible show List.length _ = _); rfl) | (focus (with_reducible show List.getLast? _ = _); rfl))
    · rfl
  | i :: j :: r, _, h1 =>
    refine ⟨i, .lst ((j :: r).map .int), ?_, j :: r, rfl, by simp, by simp at h1 ⊢; omega⟩
    apply r_fn (F := ⟨1, 2, none, b2⟩) rfl rfl
    · unfold b2
      dsimp only
      repeat (first | (focus (with_reducible show getS _ _ = _); rfl) | (focus (with_reducible show ev _ _ _ _ false _ = _); first | with_reducible apply r_var | with_reducible exact r_lit | with_reducible apply r_op | with_reducible apply r_callE | with_reducible apply r_tup | with_reducible apply r_frz | with_reducible apply r_and | with_reducible apply r_or | with_reducible apply r_not | with_reducible apply (r_mop rfl) | with_reducible apply r_mopB | with_reducible apply r_lst | with_reducible apply r_mv | with_reducible apply r_sh | with_reducible apply r_glob | with_reducible apply r_cmp2 | with_reducible apply r_ite | with_reducible apply r_bw | with_reducible apply r_meth | with_reducible apply r_new | with_reducible apply r_pop | with_reducible apply r_popAt | with_reducible exact r_dct | with_reducible exact r_dctT | with_reducible apply r_dctOf) | (focus (with_reducible show ev _ _ _ _ true _ = _); first | with_reducible apply t_op | with_reducible apply t_call | with_reducible apply r_and | with_reducible apply r_or | with_reducible apply r_not | with_reducible apply t_var | with_reducible apply t_bw | with_reducible apply r_cmp2 | with_reducible apply t_mop | with_reducible apply t_meth | with_reducible apply t_lit) | (focus (with_reducible show evO _ _ _ _ _ = _); first | with_reducible apply (o_cons rfl) | with_reducible exact o_nil | with_reducible apply o_bw | rfl) | (focus (with_reducible show prim _ _ = _); first | (focus (with_reducible show prim .mod _ = _); exact p_mod (by omega)) | (focus (with_reducible show prim .fdiv _ = _); exact p_fdiv ⟨by omega, by omega⟩) | (focus (with_reducible show prim .mul _ = _); first | exact p_mul2 ⟨by omega, by omega⟩ | exact p_mul1 ⟨by omega, by omega⟩) | exact eq_nil (j :: r) | rfl) | (focus (with_reducible show O.frz _ = _); rfl) | (focus (with_reducible show truth _ = _); rfl) | (focus (with_reducible show evV _ _ _ _ _ = _); first | with_reducible apply v_cons | with_reducible exact v_nil | rfl) | (focus (with_reducible show evS _ _ _ _ _ _ = _); first | with_reducible apply s_asg | with_reducible apply s_ite | with_reducible apply s_ret | with_reducible apply s_for | with_reducible apply s_app | with_reducible apply s_setI | with_reducible apply s_expr | with_reducible apply s_unp | with_reducible apply s_aug | with_reducible apply s_while | with_reducible apply s_ext | with_reducible apply s_rev | with_reducible exact s_retN | with_reducible exact s_pass | with_reducible exact s_brk | with_reducible exact s_cont) | (focus (with_reducible show evSs _ _ _ _ _ _ = _); first | with_reducible apply ss_cons | with_reducible exact ss_nil | rfl) | (focus (with_reducible show flK _ _ _ = _); first | with_reducible apply fl_nx | with_reducible exact fl_rt | with_reducible exact fl_bk | with_reducible exact fl_ct | exact fl_rt) | (focus (with_reducible show evA _ _ _ _ _ = _); first | with_reducible apply (a_cons rfl) | with_reducible apply a_rf | with_reducible exact a_nil | with_reducible apply a_fr | rfl) | (focus (with_reducible show takeA _ _ _ = _); rfl) | (focus (with_reducible show giveA _ _ _ = _); rfl) | ((with_reducible apply cond_t); focus (first | rfl | assumption | (simp [*]; done))) | ((with_reducible apply cond_f); focus (first | rfl | assumption | (simp [*]; done))) | (focus (with_reducible show rcv _ _ = _); rfl) | (focus (with_reducible show iterD _ _ = _); rfl) | (focus (with_reducible show plainS _ _ = _); rfl) | (focus (with_reducible show bindT _ _ _ = _); rfl) | (focus (with_reducible show setO _ _ _ _ = _); rfl) | (focus (with_reducible show getElem? _ _ = _); rfl) | (focus (with_reducible show some _ = some _); rfl) | (focus (with_reducible show fgK _ _ _ = _); first | with_reducible apply fg_nx | with_reducible apply fg_ct | with_reducible exact fg_bk | with_reducible exact fg_rt | exact fg_rt) | (focus (with_reducible show forGo _ _ _ _ = _); first | with_reducible exact f_nil | with_reducible apply f_cons) | (focus (with_reducible show _ ≤ sizeLine); first | exact sz_le rfl | exact sz_leO (by first | omega | (simp; done) | (simp; omega))) | (focus (with_reducible show _ < sizeLine); first | exact sz_lt rfl | exact sz_ltO (by first | omega | (simp; done) | (simp; omega))) | (focus (with_reducible show ixN _ _ = _); first | exact ix0 | rfl) | (focus (with_reducible show -(2 ^ 63) ≤ _ ∧ _ < 2 ^ 63); exact ⟨by omega, by omega⟩) | with_reducible apply r_cmp2z | (focus (with_reducible show List.length _ = _); rfl) | (focus (with_reducible show List.getLast? _ = _); rfl))
    · rfl
theorem deck_ok (m : Nat) (hm : 2 ≤ m) (ns : List Int) (hl : ns.length ≤ 63) : ∃ c p, evF B m 1 [.val (.lst (ns.map .int))] = some (c, [p]) ∧ Cl c := by
  obtain ⟨m, rfl⟩ : ∃ k, m = k + 1 := ⟨m - 1, by omega⟩
  have hz : (cutL ns none (some 63)).length ≤ 63 := Nat.le_trans (cutL_len _ _ _) hl
  have p1 : prim (.slc false true) [.lst (ns.map .int), .int 63] = some (.lst ((cutL ns none (some 63)).map .int)) := by rw [← cutL_map]; rfl
  revert hz p1
  generalize cutL ns none (some 63) = A
  intro hz p1
  obtain ⟨i, r, e⟩ : ∃ i r, A ++ [7] = i :: r := by cases A <;> simp
  have hr : r.length ≤ 63 := by have := congrArg List.length e; simp at this; omega
  have p2 : prim .add [.lst (A.map .int), .lst [.int 7]] = some (.lst (.int i :: r.map .int)) := by
    rw [p_catL (by simp; exact Nat.le_trans (show A.length + 1 ≤ 64 by omega) (by decide)), show A.map EV.D.int ++ [EV.D.int 7] = (A ++ [7]).map EV.D.int by simp, e]; rfl
  have p3 : prim .idx [.lst (.int i :: r.map .int), .int 0] = some (.val (.int i)) := p_ixL atI0
  have p4 : prim (.slc true false) [.lst (.int i :: r.map .int), .int 1] = some (.lst (r.map .int)) := by rw [p_cutLl, cut1]
  have p5 : prim .list [.lst (A.map .int)] = some (.lst (A.map .int)) := rfl
  by_cases h : i % 2 = 1
  · refine ⟨.lst ((i / 2 :: r).map .int), some (.val (.lst (ns.map .int))), ?_, i / 2 :: r, rfl, by simp, by simp; omega⟩
    apply r_fn (F := ⟨1, 2, none, b1⟩) rfl rfl
    · unfold b1
      dsimp only
      repeat (first | (focus (with_reducible show getS _ _ = _); rfl) | (focus (with_reducible show ev _ _ _ _ false _ = _); first | with_reducible apply r_var | with_reducible exact r_lit | with_reducible apply r_op | with_reducible apply r_callE | with_reducible apply r_tup | with_reducible apply r_frz | with_reducible apply r_and | with_reducible apply r_or | with_reducible apply r_not | with_reducible apply (r_mop rfl) | with_reducible apply r_mopB | with_reducible apply r_lst | with_reducible apply r_mv | with_reducible apply r_sh | with_reducible apply r_glob | with_reducible apply r_cmp2 | with_reducible apply r_ite | with_reducible apply r_bw | with_reducible apply r_meth | with_reducible apply r_new | with_reducible apply r_pop | with_reducible apply r_popAt | with_reducible exact r_dct | with_reducible exact r_dctT | with_reducible apply r_dctOf) | (focus (with_reducible show ev _ _ _ _ true _ = _); first | with_reducible apply t_op | with_reducible apply t_call | with_reducible apply r_and | with_reducible apply r_or | with_reducible apply r_not | with_reducible apply t_var | with_reducible apply t_bw | with_reducible apply r_cmp2 | with_reducible apply t_mop | with_reducible apply t_meth | with_reducible apply t_lit) | (focus (with_reducible show evO _ _ _ _ _ = _); first | with_reducible apply (o_cons rfl) | with_reducible exact o_nil | with_reducible apply o_bw | rfl) | (focus (with_reducible show prim _ _ = _); first | (focus (with_reducible show prim .mod _ = _); exact p_mod (by omega)) | (focus (with_reducible show prim .fdiv _ = _); exact p_fdiv ⟨by omega, by omega⟩) | (focus (with_reducible show prim .mul _ = _); first | exact p_mul2 ⟨by omega, by omega⟩ | exact p_mul1 ⟨by omega, by omega⟩) | exact p1 | exact p2 | exact p3 | exact p4 | exact p5 | exact p_catL (by simp; exact Nat.le_trans (show 1 + r.length ≤ 64 by omega) (by decide)) | rfl) | (focus (with_reducible show O.frz _ = _); rfl) | (focus (with_reducible show truth _ = _); rfl) | (focus (with_reducible show evV _ _ _ _ _ = _); first | with_reducible apply v_cons | with_reducible exact v_nil | rfl) | (focus (with_reducible show evS _ _ _ _ _ _ = _); first | with_reducible apply s_asg | with_reducible apply s_ite | with_reducible apply s_ret | with_reducible apply s_for | with_reducible apply s_app | with_reducible apply s_setI | with_reducible apply s_expr | with_reducible apply s_unp | with_reducible apply s_aug | with_reducible apply s_while | with_reducible apply s_ext | with_reducible apply s_rev | with_reducible exact s_retN | with_reducible exact s_pass | with_reducible exact s_brk | with_reducible exact s_cont) | (focus (with_reducible show evSs _ _ _ _ _ _ = _); first | with_reducible apply ss_cons | with_reducible exact ss_nil | rfl) | (focus (with_reducible show flK _ _ _ = _); first | with_reducible apply fl_nx | with_reducible exact fl_rt | with_reducible exact fl_bk | with_reducible exact fl_ct | exact fl_rt) | (focus (with_reducible show evA _ _ _ _ _ = _); first | with_reducible apply (a_cons rfl) | with_reducible apply a_rf | with_reducible exact a_nil | with_reducible apply a_fr | rfl) | (focus (with_reducible show takeA _ _ _ = _); rfl) | (focus (with_reducible show giveA _ _ _ = _); rfl) | ((with_reducible apply cond_t); focus (first | rfl | assumption | (simp [*]; done))) | ((with_reducible apply cond_f); focus (first | rfl | assumption | (simp [*]; done))) | (focus (with_reducible show rcv _ _ = _); rfl) | (focus (with_reducible show iterD _ _ = _); rfl) | (focus (with_reducible show plainS _ _ = _); rfl) | (focus (with_reducible show bindT _ _ _ = _); rfl) | (focus (with_reducible show setO _ _ _ _ = _); rfl) | (focus (with_reducible show getElem? _ _ = _); rfl) | (focus (with_reducible show some _ = some _); rfl) | (focus (with_reducible show fgK _ _ _ = _); first | with_reducible apply fg_nx | with_reducible apply fg_ct | with_reducible exact fg_bk | with_reducible exact fg_rt | exact fg_rt) | (focus (with_reducible show forGo _ _ _ _ = _); first | with_reducible exact f_nil | with_reducible apply f_cons) | (focus (with_reducible show _ ≤ sizeLine); first | exact sz_le rfl | exact sz_leO (by first | omega | (simp; done) | (simp; omega))) | (focus (with_reducible show _ < sizeLine); first | exact sz_lt rfl | exact sz_ltO (by first | omega | (simp; done) | (simp; omega))) | (focus (with_reducible show ixN _ _ = _); first | exact ix0 | rfl) | (focus (with_reducible show -(2 ^ 63) ≤ _ ∧ _ < 2 ^ 63); exact ⟨by omega, by omega⟩) | with_reducible apply r_cmp2z | (focus (with_reducible show List.length _ = _); rfl) | (focus (with_reducible show List.getLast? _ = _); rfl))
    · rfl
  · obtain ⟨w, q, hw⟩ := wide_ok m (by omega) (i / 2 + r.sum)
    refine ⟨.lst [.int w], some (.val (.lst (ns.map .int))), ?_, [w], rfl, by simp, by simp⟩
    apply r_fn (F := ⟨1, 2, none, b1⟩) rfl rfl
    · unfold b1
      dsimp only
      repeat (first | (focus (with_reducible show getS _ _ = _); rfl) | (focus (with_reducible show ev _ _ _ _ false _ = _); first | with_reducible apply r_var | with_reducible exact r_lit | with_reducible apply r_op | with_reducible apply r_callE | with_reducible apply r_tup | with_reducible apply r_frz | with_reducible apply r_and | with_reducible apply r_or | with_reducible apply r_not | with_reducible apply (r_mop rfl) | with_reducible apply r_mopB | with_reducible apply r_lst | with_reducible apply r_mv | with_reducible apply r_sh | with_reducible apply r_glob | with_reducible apply r_cmp2 | with_reducible apply r_ite | with_reducible apply r_bw | with_reducible apply r_meth | with_reducible apply r_new | with_reducible apply r_pop | with_reducible apply r_popAt | with_reducible exact r_dct | with_reducible exact r_dctT | with_reducible apply r_dctOf) | (focus (with_reducible show ev _ _ _ _ true _ = _); first | with_reducible apply t_op | with_reducible apply t_call | with_reducible apply r_and | with_reducible apply r_or | with_reducible apply r_not | with_reducible apply t_var | with_reducible apply t_bw | with_reducible apply r_cmp2 | with_reducible apply t_mop | with_reducible apply t_meth | with_reducible apply t_lit) | (focus (with_reducible show evO _ _ _ _ _ = _); first | with_reducible apply (o_cons rfl) | with_reducible exact o_nil | with_reducible apply o_bw | rfl) | (focus (with_reducible show prim _ _ = _); first | (focus (with_reducible show prim .mod _ = _); exact p_mod (by omega)) | (focus (with_reducible show prim .fdiv _ = _); exact p_fdiv ⟨by omega, by omega⟩) | (focus (with_reducible show prim .mul _ = _); first | exact p_mul2 ⟨by omega, by omega⟩ | exact p_mul1 ⟨by omega, by omega⟩) | exact p1 | exact p2 | exact p3 | exact p4 | exact p5 | exact p_sum | rfl) | (focus (with_reducible show O.frz _ = _); rfl) | (focus (with_reducible show truth _ = _); rfl) | (focus (with_reducible show evV _ _ _ _ _ = _); first | with_reducible apply v_cons | with_reducible exact v_nil | rfl) | (focus (with_reducible show evS _ _ _ _ _ _ = _); first | with_reducible apply s_asg | with_reducible apply s_ite | with_reducible apply s_ret | with_reducible apply s_for | with_reducible apply s_app | with_reducible apply s_setI | with_reducible apply s_expr | with_reducible apply s_unp | with_reducible apply s_aug | with_reducible apply s_while | with_reducible apply s_ext | with_reducible apply s_rev | with_reducible exact s_retN | with_reducible exact s_pass | with_reducible exact s_brk | with_reducible exact s_cont) | (focus (with_reducible show evSs _ _ _ _ _ _ = _); first | with_reducible apply ss_cons | with_reducible exact ss_nil | rfl) | (focus (with_reducible show flK _ _ _ = _); first | with_reducible apply fl_nx | with_reducible exact fl_rt | with_reducible exact fl_bk | with_reducible exact fl_ct | exact fl_rt) | (focus (with_reducible show evA _ _ _ _ _ = _); first | with_reducible apply (a_cons rfl) | with_reducible apply a_rf | with_reducible exact a_nil | with_reducible apply a_fr | rfl) | (focus (with_reducible show evF _ _ _ _ = _); first | (focus (with_reducible show evF _ _ 9 _ = _);  exact hw)) | (focus (with_reducible show takeA _ _ _ = _); rfl) | (focus (with_reducible show giveA _ _ _ = _); rfl) | ((with_reducible apply cond_t); focus (first | rfl | assumption | (simp [*]; done))) | ((with_reducible apply cond_f); focus (first | rfl | assumption | (simp [*]; done))) | (focus (with_reducible show rcv _ _ = _); rfl) | (focus (with_reducible show iterD _ _ = _); rfl) | (focus (with_reducible show plainS _ _ = _); rfl) | (focus (with_reducible show bindT _ _ _ = _); rfl) | (focus (with_reducible show setO _ _ _ _ = _); rfl) | (focus (with_reducible show getElem? _ _ = _); rfl) | (focus (with_reducible show some _ = some _); rfl) | (focus (with_reducible show fgK _ _ _ = _); first | with_reducible apply fg_nx | with_reducible apply fg_ct | with_reducible exact fg_bk | with_reducible exact fg_rt | exact fg_rt) | (focus (with_reducible show forGo _ _ _ _ = _); first | with_reducible exact f_nil | with_reducible apply f_cons) | (focus (with_reducible show _ ≤ sizeLine); first | exact sz_le rfl | exact sz_leO (by first | omega | (simp; done) | (simp; omega))) | (focus (with_reducible show _ < sizeLine); first | exact sz_lt rfl | exact sz_ltO (by first | omega | (simp; done) | (simp; omega))) | (focus (with_reducible show ixN _ _ = _); first | exact ix0 | rfl) | (focus (with_reducible show -(2 ^ 63) ≤ _ ∧ _ < 2 ^ 63); exact ⟨by omega, by omega⟩) | with_reducible apply r_cmp2z | (focus (with_reducible show List.length _ = _); rfl) | (focus (with_reducible show List.getLast? _ = _); rfl))
    · rfl
theorem word_ok (m : Nat) (hm : 1 ≤ m) (i : Int) : ∃ l, evF B m 10 [.val (.int i)] = some (.val (.str (mkS l)), [some (.val (.int i))]) ∧ Lw l ∧ 0 < l.length ∧ l.length ≤ 8 := by
  obtain ⟨m, rfl⟩ : ∃ k, m = k + 1 := ⟨m - 1, by omega⟩
  have hb : 0 ≤ 1 + i % 8 ∧ 1 + i % 8 ≤ 8 := by omega
  obtain ⟨ρ', hl, l, q, x, h1, h2, rfl⟩ := f_all (bd := bindT (.one 5)) (body := evSs B.G B.CL B.W (evF B m) b10_0) (fun k ρ => ∃ l q x, Lw l ∧ l.length = k ∧ ρ = [some (.val (.int i)), some (.val (.str "abcdefghijklmnopqrstuvwxyz")), some (.val (.str (mkS l))), some (.val (.int (1 + i % 8))), some (.val (.int q)), x]) (rngL 0 (1 + i % 8).toNat) 0 [some (.val (.int i)), some (.val (.str "abcdefghijklmnopqrstuvwxyz")), some (.val (.str (mkS []))), some (.val (.int (1 + i % 8))), some (.val (.int (i / 8))), none] ⟨[], _, _, by intro c hc; simp at hc, rfl, rfl⟩ (by
    rintro j x ρ hx ⟨l, q, y, h1, h2, rfl⟩
    obtain ⟨hj, rfl⟩ := rngL_get hx
    have hq : 0 ≤ q % 26 ∧ q % 26 < 26 := ⟨Int.emod_nonneg _ (by omega), Int.emod_lt_of_pos _ (by omega)⟩
    apply stn_mk
    · rfl
    · unfold b10_0
      repeat (first | (focus (with_reducible show getS _ _ = _); rfl) | (focus (with_reducible show ev _ _ _ _ false _ = _); first | with_reducible apply r_var | with_reducible exact r_lit | with_reducible apply r_op | with_reducible apply r_callE | with_reducible apply r_tup | with_reducible apply r_frz | with_reducible apply r_and | with_reducible apply r_or | with_reducible apply r_not | with_reducible apply (r_mop rfl) | with_reducible apply r_mopB | with_reducible apply r_lst | with_reducible apply r_mv | with_reducible apply r_sh | with_reducible apply r_glob | with_reducible apply r_cmp2 | with_reducible apply r_ite | with_reducible apply r_bw | with_reducible apply r_meth | with_reducible apply r_new | with_reducible apply r_pop | with_reducible apply r_popAt | with_reducible exact r_dct | with_reducible exact r_dctT | with_reducible apply r_dctOf) | (focus (with_reducible show ev _ _ _ _ true _ = _); first | with_reducible apply t_op | with_reducible apply t_call | with_reducible apply r_and | with_reducible apply r_or | with_reducible apply r_not | with_reducible apply t_var | with_reducible apply t_bw | with_reducible apply r_cmp2 | with_reducible apply t_mop | with_reducible apply t_meth | with_reducible apply t_lit) | (focus (with_reducible show evO _ _ _ _ _ = _); first | with_reducible apply (o_cons rfl) | with_reducible exact o_nil | with_reducible apply o_bw | rfl) | (focus (with_reducible show prim _ _ = _); first | (focus (with_reducible show prim .mod _ = _); exact p_mod (by omega)) | (focus (with_reducible show prim .fdiv _ = _); exact p_fdiv ⟨by omega, by omega⟩) | (focus (with_reducible show prim .mul _ = _); first | exact p_mul2 ⟨by omega, by omega⟩ | exact p_mul1 ⟨by omega, by omega⟩) | exact abc_ix hq | exact p_cat (by simp; omega) | rfl) | (focus (with_reducible show O.frz _ = _); rfl) | (focus (with_reducible show truth _ = _); rfl) | (focus (with_reducible show evV _ _ _ _ _ = _); first | with_reducible apply v_cons | with_reducible exact v_nil | rfl) | (focus (with_reducible show evS _ _ _ _ _ _ = _); first | with_reducible apply s_asg | with_reducible apply s_ite | with_reducible apply s_ret | with_reducible apply s_for | with_reducible apply s_app | with_reducible apply s_setI | with_reducible apply s_expr | with_reducible apply s_unp | with_reducible apply s_aug | with_reducible apply s_while | with_reducible apply s_ext | with_reducible apply s_rev | with_reducible exact s_retN | with_reducible exact s_pass | with_reducible exact s_brk | with_reducible exact s_cont) | (focus (with_reducible show evSs _ _ _ _ _ _ = _); first | with_reducible apply ss_cons | with_reducible exact ss_nil | rfl) | (focus (with_reducible show flK _ _ _ = _); first | with_reducible apply fl_nx | with_reducible exact fl_rt | with_reducible exact fl_bk | with_reducible exact fl_ct | exact fl_rt) | (focus (with_reducible show evA _ _ _ _ _ = _); first | with_reducible apply (a_cons rfl) | with_reducible apply a_rf | with_reducible exact a_nil | with_reducible apply a_fr | rfl) | (focus (with_reducible show takeA _ _ _ = _); rfl) | (focus (with_reducible show giveA _ _ _ = _); rfl) | ((with_reducible apply cond_t); focus (first | rfl | assumption | (simp [*]; done))) | ((with_reducible apply cond_f); focus (first | rfl | assumption | (simp [*]; done))) | (focus (with_reducible show rcv _ _ = _); rfl) | (focus (with_reducible show iterD _ _ = _); rfl) | (focus (with_reducible show plainS _ _ = _); rfl) | (focus (with_reducible show bindT _ _ _ = _); rfl) | (focus (with_reducible show setO _ _ _ _ = _); rfl) | (focus (with_reducible show getElem? _ _ = _); rfl) | (focus (with_reducible show some _ = some _); rfl) | (focus (with_reducible show fgK _ _ _ = _); first | with_reducible apply fg_nx | with_reducible apply fg_ct | with_reducible exact fg_bk | with_reducible exact fg_rt | exact fg_rt) | (focus (with_reducible show forGo _ _ _ _ = _); first | with_reducible exact f_nil | with_reducible apply f_cons) | (focus (with_reducible show _ ≤ sizeLine); first | exact sz_le rfl | exact sz_leO (by first | omega | (simp; done) | (simp; omega))) | (focus (with_reducible show _ < sizeLine); first | exact sz_lt rfl | exact sz_ltO (by first | omega | (simp; done) | (simp; omega))) | (focus (with_reducible show ixN _ _ = _); first | exact ix0 | rfl) | (focus (with_reducible show -(2 ^ 63) ≤ _ ∧ _ < 2 ^ 63); exact ⟨by omega, by omega⟩) | with_reducible apply r_cmp2z | (focus (with_reducible show List.length _ = _); rfl) | (focus (with_reducible show List.getLast? _ = _); rfl))
    · exact ⟨l ++ [97 + (q % 26).toNat], _, _, lw_app h1 (lw_one (by omega)), by simp [h2], rfl⟩)
  rw [rngL_len] at h2
  refine ⟨l, ?_, h1, by omega, by omega⟩
  apply r_fn (F := ⟨1, 6, none, b10⟩) rfl rfl
  · unfold b10
    dsimp only
    repeat (first | (focus (with_reducible show getS _ _ = _); rfl) | (focus (with_reducible show ev _ _ _ _ false _ = _); first | with_reducible apply r_var | with_reducible exact r_lit | with_reducible apply r_op | with_reducible apply r_callE | with_reducible apply r_tup | with_reducible apply r_frz | with_reducible apply r_and | with_reducible apply r_or | with_reducible apply r_not | with_reducible apply (r_mop rfl) | with_reducible apply r_mopB | with_reducible apply r_lst | with_reducible apply r_mv | with_reducible apply r_sh | with_reducible apply r_glob | with_reducible apply r_cmp2 | with_reducible apply r_ite | with_reducible apply r_bw | with_reducible apply r_meth | with_reducible apply r_new | with_reducible apply r_pop | with_reducible apply r_popAt | with_reducible exact r_dct | with_reducible exact r_dctT | with_reducible apply r_dctOf) | (focus (with_reducible show ev _ _ _ _ true _ = _); first | with_reducible apply t_op | with_reducible apply t_call | with_reducible apply r_and | with_reducible apply r_or | with_reducible apply r_not | with_reducible apply t_var | with_reducible apply t_bw | with_reducible apply r_cmp2 | with_reducible apply t_mop | with_reducible apply t_meth | with_reducible apply t_lit) | (focus (with_reducible show evO _ _ _ _ _ = _); first | with_reducible apply (o_cons rfl) | with_reducible exact o_nil | with_reducible apply o_bw | rfl) | (focus (with_reducible show prim _ _ = _); first | (focus (with_reducible show prim .mod _ = _); exact p_mod (by omega)) | (focus (with_reducible show prim .fdiv _ = _); exact p_fdiv ⟨by omega, by omega⟩) | (focus (with_reducible show prim .mul _ = _); first | exact p_mul2 ⟨by omega, by omega⟩ | exact p_mul1 ⟨by omega, by omega⟩) | rfl) | (focus (with_reducible show O.frz _ = _); rfl) | (focus (with_reducible show truth _ = _); rfl) | (focus (with_reducible show evV _ _ _ _ _ = _); first | with_reducible apply v_cons | with_reducible exact v_nil | rfl) | (focus (with_reducible show evS _ _ _ _ _ _ = _); first | with_reducible apply s_asg | with_reducible apply s_ite | with_reducible apply s_ret | with_reducible apply s_for | with_reducible apply s_app | with_reducible apply s_setI | with_reducible apply s_expr | with_reducible apply s_unp | with_reducible apply s_aug | with_reducible apply s_while | with_reducible apply s_ext | with_reducible apply s_rev | with_reducible exact s_retN | with_reducible exact s_pass | with_reducible exact s_brk | with_reducible exact s_cont) | (focus (with_reducible show evSs _ _ _ _ _ _ = _); first | with_reducible apply ss_cons | with_reducible exact ss_nil | rfl) | (focus (with_reducible show flK _ _ _ = _); first | with_reducible apply fl_nx | with_reducible exact fl_rt | with_reducible exact fl_bk | with_reducible exact fl_ct | exact fl_rt) | (focus (with_reducible show evA _ _ _ _ _ = _); first | with_reducible apply (a_cons rfl) | with_reducible apply a_rf | with_reducible exact a_nil | with_reducible apply a_fr | rfl) | (focus (with_reducible show takeA _ _ _ = _); rfl) | (focus (with_reducible show giveA _ _ _ = _); rfl) | ((with_reducible apply cond_t); focus (first | rfl | assumption | (simp [*]; done))) | ((with_reducible apply cond_f); focus (first | rfl | assumption | (simp [*]; done))) | (focus (with_reducible show forGo _ _ _ _ = _); exact hl) | (focus (with_reducible show iterD .rng1 _ = _); exact it1 (by omega)) | (focus (with_reducible show rcv _ _ = _); rfl) | (focus (with_reducible show iterD _ _ = _); rfl) | (focus (with_reducible show plainS _ _ = _); rfl) | (focus (with_reducible show bindT _ _ _ = _); rfl) | (focus (with_reducible show setO _ _ _ _ = _); rfl) | (focus (with_reducible show getElem? _ _ = _); rfl) | (focus (with_reducible show some _ = some _); rfl) | (focus (with_reducible show fgK _ _ _ = _); first | with_reducible apply fg_nx | with_reducible apply fg_ct | with_reducible exact fg_bk | with_reducible exact fg_rt | exact fg_rt) | (focus (with_reducible show forGo _ _ _ _ = _); first | with_reducible exact f_nil | with_reducible apply f_cons) | (focus (with_reducible show _ ≤ sizeLine); first | exact sz_le rfl | exact sz_leO (by first | omega | (simp; done) | (simp; omega))) | (focus (with_reducible show _ < sizeLine); first | exact sz_lt rfl | exact sz_ltO (by first | omega | (simp; done) | (simp; omega))) | (focus (with_reducible show ixN _ _ = _); first | exact ix0 | rfl) | (focus (with_reducible show -(2 ^ 63) ≤ _ ∧ _ < 2 ^ 63); exact ⟨by omega, by omega⟩) | with_reducible apply r_cmp2z | (focus (with_reducible show List.length _ = _); rfl) | (focus (with_reducible show List.getLast? _ = _); rfl))
  · rfl
def barL : List Str := ["fun", "let", "group", "and", "in", "if", "get", "put", "match", "told", "yes", "no", "num", "truth", "module", "use", "shape", "class", "house", "for", "when", "is", "end", "out", "shown", "hidden"]
theorem p_bar1 : prim .add [.str "fun let group and in if get put match told yes no num truth ", .str "module use shape class house for when is end out shown hidden"] = some (.val (.str "fun let group and in if get put match told yes no num truth module use shape class house for when is end out shown hidden")) := by kernel_rfl
theorem p_bar2 : prim .split [.str "fun let group and in if get put match told yes no num truth module use shape class house for when is end out shown hidden", .str " "] = some (.lst (barL.map .str)) := by kernel_rfl
def bar (s : Str) : Bool := decide (s ∈ barL)
theorem barred_ok (m : Nat) (hm : 1 ≤ m) (s : Str) : evF B m 15 [.val (.str s)] = some (.val (.bl (bar s)), [some (.val (.str s))]) := by
  obtain ⟨m, rfl⟩ : ∃ k, m = k + 1 := ⟨m - 1, by omega⟩
  apply r_fn (F := ⟨1, 2, none, b15⟩) rfl rfl
  · unfold b15
    dsimp only
    repeat (first | (focus (with_reducible show getS _ _ = _); rfl) | (focus (with_reducible show ev _ _ _ _ false _ = _); first | with_reducible apply r_var | with_reducible exact r_lit | with_reducible apply r_op | with_reducible apply r_callE | with_reducible apply r_tup | with_reducible apply r_frz | with_reducible apply r_and | with_reducible apply r_or | with_reducible apply r_not | with_reducible apply (r_mop rfl) | with_reducible apply r_mopB | with_reducible apply r_lst | with_reducible apply r_mv | with_reducible apply r_sh | with_reducible apply r_glob | with_reducible apply r_cmp2 | with_reducible apply r_ite | with_reducible apply r_bw | with_reducible apply r_meth | with_reducible apply r_new | with_reducible apply r_pop | with_reducible apply r_popAt | with_reducible exact r_dct | with_reducible exact r_dctT | with_reducible apply r_dctOf) | (focus (with_reducible show ev _ _ _ _ true _ = _); first | with_reducible apply t_op | with_reducible apply t_call | with_reducible apply r_and | with_reducible apply r_or | with_reducible apply r_not | with_reducible apply t_var | with_reducible apply t_bw | with_reducible apply r_cmp2 | with_reducible apply t_mop | with_reducible apply t_meth | with_reducible apply t_lit) | (focus (with_reducible show evO _ _ _ _ _ = _); first | with_reducible apply (o_cons rfl) | with_reducible exact o_nil | with_reducible apply o_bw | rfl) | (focus (with_reducible show prim _ _ = _); first | (focus (with_reducible show prim .mod _ = _); exact p_mod (by omega)) | (focus (with_reducible show prim .fdiv _ = _); exact p_fdiv ⟨by omega, by omega⟩) | (focus (with_reducible show prim .mul _ = _); first | exact p_mul2 ⟨by omega, by omega⟩ | exact p_mul1 ⟨by omega, by omega⟩) | exact p_bar1 | exact p_bar2 | exact p_inS | rfl) | (focus (with_reducible show O.frz _ = _); rfl) | (focus (with_reducible show truth _ = _); rfl) | (focus (with_reducible show evV _ _ _ _ _ = _); first | with_reducible apply v_cons | with_reducible exact v_nil | rfl) | (focus (with_reducible show evS _ _ _ _ _ _ = _); first | with_reducible apply s_asg | with_reducible apply s_ite | with_reducible apply s_ret | with_reducible apply s_for | with_reducible apply s_app | with_reducible apply s_setI | with_reducible apply s_expr | with_reducible apply s_unp | with_reducible apply s_aug | with_reducible apply s_while | with_reducible apply s_ext | with_reducible apply s_rev | with_reducible exact s_retN | with_reducible exact s_pass | with_reducible exact s_brk | with_reducible exact s_cont) | (focus (with_reducible show evSs _ _ _ _ _ _ = _); first | with_reducible apply ss_cons | with_reducible exact ss_nil | rfl) | (focus (with_reducible show flK _ _ _ = _); first | with_reducible apply fl_nx | with_reducible exact fl_rt | with_reducible exact fl_bk | with_reducible exact fl_ct | exact fl_rt) | (focus (with_reducible show evA _ _ _ _ _ = _); first | with_reducible apply (a_cons rfl) | with_reducible apply a_rf | with_reducible exact a_nil | with_reducible apply a_fr | rfl) | (focus (with_reducible show takeA _ _ _ = _); rfl) | (focus (with_reducible show giveA _ _ _ = _); rfl) | ((with_reducible apply cond_t); focus (first | rfl | assumption | (simp [*]; done))) | ((with_reducible apply cond_f); focus (first | rfl | assumption | (simp [*]; done))) | (focus (with_reducible show rcv _ _ = _); rfl) | (focus (with_reducible show iterD _ _ = _); rfl) | (focus (with_reducible show plainS _ _ = _); rfl) | (focus (with_reducible show bindT _ _ _ = _); rfl) | (focus (with_reducible show setO _ _ _ _ = _); rfl) | (focus (with_reducible show getElem? _ _ = _); rfl) | (focus (with_reducible show some _ = some _); rfl) | (focus (with_reducible show fgK _ _ _ = _); first | with_reducible apply fg_nx | with_reducible apply fg_ct | with_reducible exact fg_bk | with_reducible exact fg_rt | exact fg_rt) | (focus (with_reducible show forGo _ _ _ _ = _); first | with_reducible exact f_nil | with_reducible apply f_cons) | (focus (with_reducible show _ ≤ sizeLine); first | exact sz_le rfl | exact sz_leO (by first | omega | (simp; done) | (simp; omega))) | (focus (with_reducible show _ < sizeLine); first | exact sz_lt rfl | exact sz_ltO (by first | omega | (simp; done) | (simp; omega))) | (focus (with_reducible show ixN _ _ = _); first | exact ix0 | rfl) | (focus (with_reducible show -(2 ^ 63) ≤ _ ∧ _ < 2 ^ 63); exact ⟨by omega, by omega⟩) | with_reducible apply r_cmp2z | (focus (with_reducible show List.length _ = _); rfl) | (focus (with_reducible show List.getLast? _ = _); rfl))
  · rfl

/-! ### names, marks, opens -/
def lw (c : Nat) : Bool := decide (c ∈ ("abcdefghijklmnopqrstuvwxyz" : Str).cps.toList)
def up (c : Nat) : Bool := decide (c ∈ ("ABCDEFGHIJKLMNOPQRSTUVWXYZ" : Str).cps.toList)
def fg (c : Nat) : Bool := decide (c ∈ ("0123456789" : Str).cps.toList)
theorem p_in1 {c : Nat} {z : Str} : prim .isin [sign c, .str z] = some (.val (.bl (decide (c ∈ z.cps.toList)))) := rfl
theorem p_nin1 {c : Nat} {z : Str} : prim .notin [sign c, .str z] = some (.val (.bl !(decide (c ∈ z.cps.toList)))) := rfl
theorem p_in1' {c : Nat} {z : Str} : prim .isin [.str (mkS [c]), .str z] = some (.val (.bl (decide (c ∈ z.cps.toList)))) := rfl
theorem toPys_signs : ∀ l : List Nat, toPys (l.map sign) = some (l.map fun c => PyData.str ⟨#[c]⟩)
  | [] => rfl
  | c :: l => by simp [toPys, toPy, sign, toPys_signs l]
theorem toPys_strs : ∀ l : List Str, toPys (l.map D.str) = some (l.map PyData.str)
  | [] => rfl
  | c :: l => by simp [toPys, toPy, toPys_strs l]
theorem depth_strs : ∀ l : List Str, PyData.depthAll (l.map PyData.str) = 0
  | [] => rfl
  | c :: l => by simp [PyData.depthAll, PyData.depth, depth_strs l]
theorem lay_strs : ∀ l : List Str, (∀ s ∈ l, PyData.strOk s = true) → PyData.canLayAll0 (l.map PyData.str) = true
  | [], _ => rfl
  | c :: l, h => by simp [PyData.canLayAll0, PyData.canLay0, h c (by simp), lay_strs l fun s hs => h s (by simp [hs])]
theorem shaped_strs {l : List Str} (h : ∀ s ∈ l, PyData.strOk s = true) : SeqAt.shaped (.list (l.map PyData.str)) = true := by
  simp [SeqAt.shaped, PyData.canLay0, PyData.depth, depth_strs, lay_strs l h]
theorem eqv_strs : ∀ a b : List Str, PyData.eqvAll (a.map PyData.str) (b.map PyData.str) = decide (a = b)
  | [], [] => rfl
  | [], _ :: _ => rfl
  | _ :: _, [] => rfl
  | x :: a, y :: b => by
    have := eqv_strs a b
    simp only [List.map_cons, PyData.eqvAll, PyData.eqv, this, List.cons.injEq, Bool.decide_and]
    congr 1
theorem eqP_strs {a b : List Str} (ha : ∀ s ∈ a, PyData.strOk s = true) (hb : ∀ s ∈ b, PyData.strOk s = true) : eqD (.lst (a.map .str)) (.lst (b.map .str)) = some (decide (a = b)) := by
  have h1 : ∀ l : List Str, toPy (.lst (l.map .str)) = some (.list (l.map .str)) := fun l => by unfold toPy; rw [toPys_strs]; rfl
  unfold eqD
  simp only [eqS]
  unfold eqP
  rw [h1, h1]
  simp only [shaped_strs ha, shaped_strs hb, Bool.and_self, if_true]
  simp [PyData.eqv, eqv_strs]
theorem p_eqStrs {a b : List Str} (ha : ∀ s ∈ a, PyData.strOk s = true) (hb : ∀ s ∈ b, PyData.strOk s = true) : prim .eq [.lst (a.map .str), .lst (b.map .str)] = some (.val (.bl (decide (a = b)))) := by
  show (eqD _ _).map _ = _
  rw [eqP_strs ha hb]; rfl
theorem p_neStrs {a b : List Str} (ha : ∀ s ∈ a, PyData.strOk s = true) (hb : ∀ s ∈ b, PyData.strOk s = true) : prim .ne [.lst (a.map .str), .lst (b.map .str)] = some (.val (.bl !(decide (a = b)))) := by
  show (eqD _ _).map _ = _
  rw [eqP_strs ha hb]; rfl
def Asc (l : List Nat) : Prop := ∀ c ∈ l, c < 1114112
theorem asc_ok {l : List Nat} (h : Asc l) : PyData.strOk (mkS l) = true := by
  show (mkS l).cps.all _ = true
  rw [← Array.all_toList, mkS_cps]
  exact List.all_eq_true.mpr fun c hc => by simpa using h c hc
theorem p_eqNil {l : List Nat} (h : Asc l) : prim .eq [.lst (l.map sign), .lst []] = some (.val (.bl l.isEmpty)) := by
  have e : l.map sign = (l.map fun c => mkS [c]).map D.str := by rw [List.map_map]; rfl
  have := p_eqStrs (a := l.map fun c => mkS [c]) (b := []) (fun s hs => by
    obtain ⟨c, hc, rfl⟩ := List.mem_map.mp hs
    exact asc_ok fun x hx => by simp at hx; subst hx; exact h _ hc) (by simp)
  rw [e]
  refine this.trans ?_
  cases l <;> simp
theorem iter_S (l : List Nat) : iterD .plain [.str (mkS l)] = some (l.map sign) := by
  show some _ = _
  rw [mkS_cps]
theorem allin_ok (m : Nat) (hm : 1 ≤ m) (l : List Nat) (hl : l.length ≤ 1000) (z : Str) : evF B m 17 [.val (.str (mkS l)), .val (.str z)] = some (.val (.bl (l.all fun c => decide (c ∈ z.cps.toList))), [some (.val (.str (mkS l))), some (.val (.str z))]) := by
  obtain ⟨m, rfl⟩ : ∃ k, m = k + 1 := ⟨m - 1, by omega⟩
  have hc := c_map (step := cStep B.G B.CL (evF B m) (.one 2) [] e17_0) (ρ := [some (.val (.str (mkS l))), some (.val (.str z)), none]) (g := fun x => match x with | .str ⟨⟨[c]⟩⟩ => .bl (decide (c ∈ z.cps.toList)) | _ => .non) (l.map sign) (by
    intro x hx
    obtain ⟨c, hc, rfl⟩ := List.mem_map.mp hx
    apply cmap_mk
    · rfl
    · unfold e17_0
      repeat (first | (focus (with_reducible show getS _ _ = _); rfl) | (focus (with_reducible show ev _ _ _ _ false _ = _); first | with_reducible apply r_var | with_reducible exact r_lit | with_reducible apply r_op | with_reducible apply r_callE | with_reducible apply r_tup | with_reducible apply r_frz | with_reducible apply r_and | with_reducible apply r_or | with_reducible apply r_not | with_reducible apply (r_mop rfl) | with_reducible apply r_mopB | with_reducible apply r_lst | with_reducible apply r_mv | with_reducible apply r_sh | with_reducible apply r_glob | with_reducible apply r_cmp2 | with_reducible apply r_ite | with_reducible apply r_bw | with_reducible apply r_meth | with_reducible apply r_new | with_reducible apply r_pop | with_reducible apply r_popAt | with_reducible exact r_dct | with_reducible exact r_dctT | with_reducible apply r_dctOf) | (focus (with_reducible show ev _ _ _ _ true _ = _); first | with_reducible apply t_op | with_reducible apply t_call | with_reducible apply r_and | with_reducible apply r_or | with_reducible apply r_not | with_reducible apply t_var | with_reducible apply t_bw | with_reducible apply r_cmp2 | with_reducible apply t_mop | with_reducible apply t_meth | with_reducible apply t_lit) | (focus (with_reducible show evO _ _ _ _ _ = _); first | with_reducible apply (o_cons rfl) | with_reducible exact o_nil | with_reducible apply o_bw | rfl) | (focus (with_reducible show prim _ _ = _); first | (focus (with_reducible show prim .mod _ = _); exact p_mod (by omega)) | (focus (with_reducible show prim .fdiv _ = _); exact p_fdiv ⟨by omega, by omega⟩) | (focus (with_reducible show prim .mul _ = _); first | exact p_mul2 ⟨by omega, by omega⟩ | exact p_mul1 ⟨by omega, by omega⟩) | exact p_in1 | rfl) | (focus (with_reducible show O.frz _ = _); rfl) | (focus (with_reducible show truth _ = _); rfl) | (focus (with_reducible show evV _ _ _ _ _ = _); first | with_reducible apply v_cons | with_reducible exact v_nil | rfl) | (focus (with_reducible show evS _ _ _ _ _ _ = _); first | with_reducible apply s_asg | with_reducible apply s_ite | with_reducible apply s_ret | with_reducible apply s_for | with_reducible apply s_app | with_reducible apply s_setI | with_reducible apply s_expr | with_reducible apply s_unp | with_reducible apply s_aug | with_reducible apply s_while | with_reducible apply s_ext | with_reducible apply s_rev | with_reducible exact s_retN | with_reducible exact s_pass | with_reducible exact s_brk | with_reducible exact s_cont) | (focus (with_reducible show evSs _ _ _ _ _ _ = _); first | with_reducible apply ss_cons | with_reducible exact ss_nil | rfl) | (focus (with_reducible show flK _ _ _ = _); first | with_reducible apply fl_nx | with_reducible exact fl_rt | with_reducible exact fl_bk | with_reducible exact fl_ct | exact fl_rt) | (focus (with_reducible show evA _ _ _ _ _ = _); first | with_reducible apply (a_cons rfl) | with_reducible apply a_rf | with_reducible exact a_nil | with_reducible apply a_fr | rfl) | (focus (with_reducible show takeA _ _ _ = _); rfl) | (focus (with_reducible show giveA _ _ _ = _); rfl) | ((with_reducible apply cond_t); focus (first | rfl | assumption | (simp [*]; done))) | ((with_reducible apply cond_f); focus (first | rfl | assumption | (simp [*]; done))) | (focus (with_reducible show rcv _ _ = _); rfl) | (focus (with_reducible show iterD _ _ = _); rfl) | (focus (with_reducible show plainS _ _ = _); rfl) | (focus (with_reducible show bindT _ _ _ = _); rfl) | (focus (with_reducible show setO _ _ _ _ = _); rfl) | (focus (with_reducible show getElem? _ _ = _); rfl) | (focus (with_reducible show some _ = some _); rfl) | (focus (with_reducible show fgK _ _ _ = _); first | with_reducible apply fg_nx | with_reducible apply fg_ct | with_reducible exact fg_bk | with_reducible exact fg_rt | exact fg_rt) | (focus (with_reducible show forGo _ _ _ _ = _); first | with_reducible exact f_nil | with_reducible apply f_cons) | (focus (with_reducible show _ ≤ sizeLine); first | exact sz_le rfl | exact sz_leO (by first | omega | (simp; done) | (simp; omega))) | (focus (with_reducible show _ < sizeLine); first | exact sz_lt rfl | exact sz_ltO (by first | omega | (simp; done) | (simp; omega))) | (focus (with_reducible show ixN _ _ = _); first | exact ix0 | rfl) | (focus (with_reducible show -(2 ^ 63) ≤ _ ∧ _ < 2 ^ 63); exact ⟨by omega, by omega⟩) | with_reducible apply r_cmp2z | (focus (with_reducible show List.length _ = _); rfl) | (focus (with_reducible show List.getLast? _ = _); rfl))
    · rfl
    · rfl)
  have hp : prim .all [.lst ((l.map sign).map fun x => match x with | .str ⟨⟨[c]⟩⟩ => .bl (decide (c ∈ z.cps.toList)) | _ => .non)] = some (.val (.bl (l.all fun c => decide (c ∈ z.cps.toList)))) := by
    have e : ((l.map sign).map fun x => match x with | .str ⟨⟨[c]⟩⟩ => D.bl (decide (c ∈ z.cps.toList)) | _ => .non) = (l.map fun c => decide (c ∈ z.cps.toList)).map D.bl := by
      rw [List.map_map, List.map_map]; rfl
    rw [e, p_all]
    simp [List.all_map]
  apply r_fn (F := ⟨2, 3, none, b17⟩) rfl rfl
  · unfold b17
    dsimp only
    repeat (first | (focus (with_reducible show getS _ _ = _); rfl) | (focus (with_reducible show ev _ _ _ _ false _ = _); first | with_reducible apply r_var | with_reducible exact r_lit | with_reducible apply r_op | with_reducible apply r_callE | with_reducible apply r_tup | with_reducible apply r_frz | with_reducible apply r_and | with_reducible apply r_or | with_reducible apply r_not | with_reducible apply (r_mop rfl) | with_reducible apply r_mopB | with_reducible apply r_lst | with_reducible apply r_mv | with_reducible apply r_sh | with_reducible apply r_glob | with_reducible apply r_cmp2 | with_reducible apply r_comp | with_reducible apply r_ite | with_reducible apply r_bw | with_reducible apply r_meth | with_reducible apply r_new | with_reducible apply r_pop | with_reducible apply r_popAt | with_reducible exact r_dct | with_reducible exact r_dctT | with_reducible apply r_dctOf) | (focus (with_reducible show ev _ _ _ _ true _ = _); first | with_reducible apply t_op | with_reducible apply t_call | with_reducible apply r_and | with_reducible apply r_or | with_reducible apply r_not | with_reducible apply t_var | with_reducible apply t_bw | with_reducible apply r_cmp2 | with_reducible apply t_mop | with_reducible apply t_meth | with_reducible apply t_lit | with_reducible apply r_comp) | (focus (with_reducible show evO _ _ _ _ _ = _); first | with_reducible apply (o_cons rfl) | with_reducible exact o_nil | with_reducible apply o_bw | rfl) | (focus (with_reducible show prim _ _ = _); first | (focus (with_reducible show prim .mod _ = _); exact p_mod (by omega)) | (focus (with_reducible show prim .fdiv _ = _); exact p_fdiv ⟨by omega, by omega⟩) | (focus (with_reducible show prim .mul _ = _); first | exact p_mul2 ⟨by omega, by omega⟩ | exact p_mul1 ⟨by omega, by omega⟩) | exact hp | rfl) | (focus (with_reducible show O.frz _ = _); rfl) | (focus (with_reducible show truth _ = _); rfl) | (focus (with_reducible show evV _ _ _ _ _ = _); first | with_reducible apply v_cons | with_reducible exact v_nil | rfl) | (focus (with_reducible show evS _ _ _ _ _ _ = _); first | with_reducible apply s_asg | with_reducible apply s_ite | with_reducible apply s_ret | with_reducible apply s_for | with_reducible apply s_app | with_reducible apply s_setI | with_reducible apply s_expr | with_reducible apply s_unp | with_reducible apply s_aug | with_reducible apply s_while | with_reducible apply s_ext | with_reducible apply s_rev | with_reducible exact s_retN | with_reducible exact s_pass | with_reducible exact s_brk | with_reducible exact s_cont) | (focus (with_reducible show evSs _ _ _ _ _ _ = _); first | with_reducible apply ss_cons | with_reducible exact ss_nil | rfl) | (focus (with_reducible show flK _ _ _ = _); first | with_reducible apply fl_nx | with_reducible exact fl_rt | with_reducible exact fl_bk | with_reducible exact fl_ct | exact fl_rt) | (focus (with_reducible show evA _ _ _ _ _ = _); first | with_reducible apply (a_cons rfl) | with_reducible apply a_rf | with_reducible exact a_nil | with_reducible apply a_fr | rfl) | (focus (with_reducible show takeA _ _ _ = _); rfl) | (focus (with_reducible show giveA _ _ _ = _); rfl) | ((with_reducible apply cond_t); focus (first | rfl | assumption | (simp [*]; done))) | ((with_reducible apply cond_f); focus (first | rfl | assumption | (simp [*]; done))) | (focus (with_reducible show iterD .plain _ = _); exact iter_S l) | (focus (with_reducible show compGo _ _ _ = _); exact hc) | (focus (with_reducible show _ ≤ sizeLine); exact sz_leO (by simp; omega)) | (focus (with_reducible show rcv _ _ = _); rfl) | (focus (with_reducible show iterD _ _ = _); rfl) | (focus (with_reducible show plainS _ _ = _); rfl) | (focus (with_reducible show bindT _ _ _ = _); rfl) | (focus (with_reducible show setO _ _ _ _ = _); rfl) | (focus (with_reducible show getElem? _ _ = _); rfl) | (focus (with_reducible show some _ = some _); rfl) | (focus (with_reducible show fgK _ _ _ = _); first | with_reducible apply fg_nx | with_reducible apply fg_ct | with_reducible exact fg_bk | with_reducible exact fg_rt | exact fg_rt) | (focus (with_reducible show forGo _ _ _ _ = _); first | with_reducible exact f_nil | with_reducible apply f_cons) | (focus (with_reducible show _ ≤ sizeLine); first | exact sz_le rfl | exact sz_leO (by first | omega | (simp; done) | (simp; omega))) | (focus (with_reducible show _ < sizeLine); first | exact sz_lt rfl | exact sz_ltO (by first | omega | (simp; done) | (simp; omega))) | (focus (with_reducible show ixN _ _ = _); first | exact ix0 | rfl) | (focus (with_reducible show -(2 ^ 63) ≤ _ ∧ _ < 2 ^ 63); exact ⟨by omega, by omega⟩) | with_reducible apply r_cmp2z | (focus (with_reducible show List.length _ = _); rfl) | (focus (with_reducible show List.getLast? _ = _); rfl))
  · rfl

theorem and_sym {G : List D} {CL : List (List Nat)} {C : CallF} {a b : E} {m : Bool} {ρ ρ1 ρ2 : EV.Env} {x y : Bool} (h : ev G CL C a m ρ = some (.val (.bl x), ρ1)) (k : ev G CL C b m ρ1 = some (.val (.bl y), ρ2)) (e : ρ1 = ρ2) : ev G CL C (.and a b) m ρ = some (.val (.bl (x && y)), ρ2) := by
  subst e
  refine r_and h rfl ?_
  cases x
  · rfl
  · exact k
theorem cmp_sym {G : List D} {CL : List (List Nat)} {C : CallF} {p q : Pr} {x y z : E} {m : Bool} {ρ : EV.Env} {o0 o1 o2 : O} {a b : Bool} (h1 : ev G CL C x false ρ = some (o0, ρ)) (h2 : ev G CL C y false ρ = some (o1, ρ)) (h3 : ev G CL C z false ρ = some (o2, ρ)) (p1 : prim p [o0.frz, o1.frz] = some (.val (.bl a))) (p2 : prim q [o1.frz, o2.frz] = some (.val (.bl b))) : ev G CL C (.cmp2 p q x y z) m ρ = some (.val (.bl (a && b)), ρ) := by
  refine r_cmp2 (d1 := o0.frz) (d2 := o2.frz) h1 h2 p1 ?_
  cases a
  · rfl
  · exact r_cmp2z h3 p2
theorem not_sym {G : List D} {CL : List (List Nat)} {C : CallF} {a : E} {m : Bool} {ρ ρ1 : EV.Env} {x : Bool} (h : ev G CL C a m ρ = some (.val (.bl x), ρ1)) : ev G CL C (.not a) m ρ = some (.val (.bl !x), ρ1) := r_not h rfl
def bar1 : List Str := ["fun", "let", "group", "and", "in", "if", "get", "put", "match", "told", "yes", "no", "num", "truth"]
def bar2 : List Str := ["module", "use", "shape", "class", "house", "for", "when", "is", "end", "out", "shown", "hidden"]
theorem bar_two (s : Str) : bar s = (decide (s ∈ bar1) || decide (s ∈ bar2)) := by
  unfold bar
  rw [show barL = bar1 ++ bar2 from rfl]
  simp
theorem p_ninTs {s : Str} {ss : List Str} : prim .notin [.str s, .tup (ss.map .str)] = some (.val (.bl (!decide (s ∈ ss)))) := by
  show (inL _ _).map _ = _
  unfold inL
  rw [flat_strs, inF_strs]; rfl
def lenB (n : Int) (l : List Nat) : Bool := decide ((1 : Int) ≤ (l.length : Int)) && decide ((l.length : Int) ≤ n)
def nameB (l : List Nat) : Bool := lenB 8 l && (l.all lw && !bar (mkS l))
def markB (l : List Nat) : Bool := match l with
  | [] => false
  | c :: r => lenB 8 (c :: r) && (up c && r.all lw)
def openB (l : List Nat) : Bool := match l with
  | [] => false
  | c :: r => lenB 5 (c :: r) && (lw c && r.all fg)
theorem filt_all : ∀ l : List Nat, (l.filter fun c => !lw c).isEmpty = l.all lw
  | [] => rfl
  | c :: l => by
    have := filt_all l
    by_cases h : lw c = true <;> simp [h] at this ⊢
    exact this
theorem small_ok (m : Nat) (hm : 1 ≤ m) (l : List Nat) (hl : l.length ≤ 1000) (ha : Asc l) : evF B m 16 [.val (.str (mkS l))] = some (.val (.bl (l.all lw)), [some (.val (.str (mkS l)))]) := by
  obtain ⟨m, rfl⟩ : ∃ k, m = k + 1 := ⟨m - 1, by omega⟩
  have hc := c_filter (step := cStep B.G B.CL (evF B m) (.one 1) [.op .notin [.var 1, .lit (.str "abcdefghijklmnopqrstuvwxyz")]] e16_0) (ρ := [some (.val (.str (mkS l))), none]) (fun x => match x with | .str ⟨⟨[c]⟩⟩ => !lw c | _ => false) (l.map sign) (by
    intro x hx
    obtain ⟨c, hc, rfl⟩ := List.mem_map.mp hx
    by_cases h : c ∈ ("abcdefghijklmnopqrstuvwxyz" : Str).cps.toList
    · have e : (match sign c with | .str ⟨⟨[c]⟩⟩ => !lw c | _ => false) = false := by show (!lw c) = false; simp [lw, h]
      rw [e]
      have hp : prim .notin [sign c, .str "abcdefghijklmnopqrstuvwxyz"] = some (.val (.bl false)) := by rw [p_nin1]; simp [h]
      refine cs_1 rfl (ρ2 := [some (.val (.str (mkS l))), some (.val (sign c))]) (b := false) ?_ rfl
      repeat (first | (focus (with_reducible show getS _ _ = _); rfl) | (focus (with_reducible show ev _ _ _ _ false _ = _); first | with_reducible apply r_var | with_reducible exact r_lit | with_reducible apply r_op | with_reducible apply r_callE | with_reducible apply r_tup | with_reducible apply r_frz | with_reducible apply r_and | with_reducible apply r_or | with_reducible apply r_not | with_reducible apply (r_mop rfl) | with_reducible apply r_mopB | with_reducible apply r_lst | with_reducible apply r_mv | with_reducible apply r_sh | with_reducible apply r_glob | with_reducible apply r_cmp2 | with_reducible apply r_ite | with_reducible apply r_bw | with_reducible apply r_meth | with_reducible apply r_new | with_reducible apply r_pop | with_reducible apply r_popAt | with_reducible exact r_dct | with_reducible exact r_dctT | with_reducible apply r_dctOf) | (focus (with_reducible show ev _ _ _ _ true _ = _); first | with_reducible apply t_op | with_reducible apply t_call | with_reducible apply r_and | with_reducible apply r_or | with_reducible apply r_not | with_reducible apply t_var | with_reducible apply t_bw | with_reducible apply r_cmp2 | with_reducible apply t_mop | with_reducible apply t_meth | with_reducible apply t_lit) | (focus (with_reducible show evO _ _ _ _ _ = _); first | with_reducible apply (o_cons rfl) | with_reducible exact o_nil | with_reducible apply o_bw | rfl) | (focus (with_reducible show prim _ _ = _); first | (focus (with_reducible show prim .mod _ = _); exact p_mod (by omega)) | (focus (with_reducible show prim .fdiv _ = _); exact p_fdiv ⟨by omega, by omega⟩) | (focus (with_reducible show prim .mul _ = _); first | exact p_mul2 ⟨by omega, by omega⟩ | exact p_mul1 ⟨by omega, by omega⟩) | exact hp | rfl) | (focus (with_reducible show O.frz _ = _); rfl) | (focus (with_reducible show truth _ = _); rfl) | (focus (with_reducible show evV _ _ _ _ _ = _); first | with_reducible apply v_cons | with_reducible exact v_nil | rfl) | (focus (with_reducible show evS _ _ _ _ _ _ = _); first | with_reducible apply s_asg | with_reducible apply s_ite | with_reducible apply s_ret | with_reducible apply s_for | with_reducible apply s_app | with_reducible apply s_setI | with_reducible apply s_expr | with_reducible apply s_unp | with_reducible apply s_aug | with_reducible apply s_while | with_reducible apply s_ext | with_reducible apply s_rev | with_reducible exact s_retN | with_reducible exact s_pass | with_reducible exact s_brk | with_reducible exact s_cont) | (focus (with_reducible show evSs _ _ _ _ _ _ = _); first | with_reducible apply ss_cons | with_reducible exact ss_nil | rfl) | (focus (with_reducible show flK _ _ _ = _); first | with_reducible apply fl_nx | with_reducible exact fl_rt | with_reducible exact fl_bk | with_reducible exact fl_ct | exact fl_rt) | (focus (with_reducible show evA _ _ _ _ _ = _); first | with_reducible apply (a_cons rfl) | with_reducible apply a_rf | with_reducible exact a_nil | with_reducible apply a_fr | rfl) | (focus (with_reducible show takeA _ _ _ = _); rfl) | (focus (with_reducible show giveA _ _ _ = _); rfl) | ((with_reducible apply cond_t); focus (first | rfl | assumption | (simp [*]; done))) | ((with_reducible apply cond_f); focus (first | rfl | assumption | (simp [*]; done))) | (focus (with_reducible show rcv _ _ = _); rfl) | (focus (with_reducible show iterD _ _ = _); rfl) | (focus (with_reducible show plainS _ _ = _); rfl) | (focus (with_reducible show bindT _ _ _ = _); rfl) | (focus (with_reducible show setO _ _ _ _ = _); rfl) | (focus (with_reducible show getElem? _ _ = _); rfl) | (focus (with_reducible show some _ = some _); rfl) | (focus (with_reducible show fgK _ _ _ = _); first | with_reducible apply fg_nx | with_reducible apply fg_ct | with_reducible exact fg_bk | with_reducible exact fg_rt | exact fg_rt) | (focus (with_reducible show forGo _ _ _ _ = _); first | with_reducible exact f_nil | with_reducible apply f_cons) | (focus (with_reducible show _ ≤ sizeLine); first | exact sz_le rfl | exact sz_leO (by first | omega | (simp; done) | (simp; omega))) | (focus (with_reducible show _ < sizeLine); first | exact sz_lt rfl | exact sz_ltO (by first | omega | (simp; done) | (simp; omega))) | (focus (with_reducible show ixN _ _ = _); first | exact ix0 | rfl) | (focus (with_reducible show -(2 ^ 63) ≤ _ ∧ _ < 2 ^ 63); exact ⟨by omega, by omega⟩) | with_reducible apply r_cmp2z | (focus (with_reducible show List.length _ = _); rfl) | (focus (with_reducible show List.getLast? _ = _); rfl))
    · have e : (match sign c with | .str ⟨⟨[c]⟩⟩ => !lw c | _ => false) = true := by show (!lw c) = true; simp [lw, h]
      rw [e]
      have hp : prim .notin [sign c, .str "abcdefghijklmnopqrstuvwxyz"] = some (.val (.bl true)) := by rw [p_nin1]; simp [h]
      refine cs_1 rfl (ρ2 := [some (.val (.str (mkS l))), some (.val (sign c))]) (b := true) ?_ ?_
      · repeat (first | (focus (with_reducible show getS _ _ = _); rfl) | (focus (with_reducible show ev _ _ _ _ false _ = _); first | with_reducible apply r_var | with_reducible exact r_lit | with_reducible apply r_op | with_reducible apply r_callE | with_reducible apply r_tup | with_reducible apply r_frz | with_reducible apply r_and | with_reducible apply r_or | with_reducible apply r_not | with_reducible apply (r_mop rfl) | with_reducible apply r_mopB | with_reducible apply r_lst | with_reducible apply r_mv | with_reducible apply r_sh | with_reducible apply r_glob | with_reducible apply r_cmp2 | with_reducible apply r_ite | with_reducible apply r_bw | with_reducible apply r_meth | with_reducible apply r_new | with_reducible apply r_pop | with_reducible apply r_popAt | with_reducible exact r_dct | with_reducible exact r_dctT | with_reducible apply r_dctOf) | (focus (with_reducible show ev _ _ _ _ true _ = _); first | with_reducible apply t_op | with_reducible apply t_call | with_reducible apply r_and | with_reducible apply r_or | with_reducible apply r_not | with_reducible apply t_var | with_reducible apply t_bw | with_reducible apply r_cmp2 | with_reducible apply t_mop | with_reducible apply t_meth | with_reducible apply t_lit) | (focus (with_reducible show evO _ _ _ _ _ = _); first | with_reducible apply (o_cons rfl) | with_reducible exact o_nil | with_reducible apply o_bw | rfl) | (focus (with_reducible show prim _ _ = _); first | (focus (with_reducible show prim .mod _ = _); exact p_mod (by omega)) | (focus (with_reducible show prim .fdiv _ = _); exact p_fdiv ⟨by omega, by omega⟩) | (focus (with_reducible show prim .mul _ = _); first | exact p_mul2 ⟨by omega, by omega⟩ | exact p_mul1 ⟨by omega, by omega⟩) | exact hp | rfl) | (focus (with_reducible show O.frz _ = _); rfl) | (focus (with_reducible show truth _ = _); rfl) | (focus (with_reducible show evV _ _ _ _ _ = _); first | with_reducible apply v_cons | with_reducible exact v_nil | rfl) | (focus (with_reducible show evS _ _ _ _ _ _ = _); first | with_reducible apply s_asg | with_reducible apply s_ite | with_reducible apply s_ret | with_reducible apply s_for | with_reducible apply s_app | with_reducible apply s_setI | with_reducible apply s_expr | with_reducible apply s_unp | with_reducible apply s_aug | with_reducible apply s_while | with_reducible apply s_ext | with_reducible apply s_rev | with_reducible exact s_retN | with_reducible exact s_pass | with_reducible exact s_brk | with_reducible exact s_cont) | (focus (with_reducible show evSs _ _ _ _ _ _ = _); first | with_reducible apply ss_cons | with_reducible exact ss_nil | rfl) | (focus (with_reducible show flK _ _ _ = _); first | with_reducible apply fl_nx | with_reducible exact fl_rt | with_reducible exact fl_bk | with_reducible exact fl_ct | exact fl_rt) | (focus (with_reducible show evA _ _ _ _ _ = _); first | with_reducible apply (a_cons rfl) | with_reducible apply a_rf | with_reducible exact a_nil | with_reducible apply a_fr | rfl) | (focus (with_reducible show takeA _ _ _ = _); rfl) | (focus (with_reducible show giveA _ _ _ = _); rfl) | ((with_reducible apply cond_t); focus (first | rfl | assumption | (simp [*]; done))) | ((with_reducible apply cond_f); focus (first | rfl | assumption | (simp [*]; done))) | (focus (with_reducible show rcv _ _ = _); rfl) | (focus (with_reducible show iterD _ _ = _); rfl) | (focus (with_reducible show plainS _ _ = _); rfl) | (focus (with_reducible show bindT _ _ _ = _); rfl) | (focus (with_reducible show setO _ _ _ _ = _); rfl) | (focus (with_reducible show getElem? _ _ = _); rfl) | (focus (with_reducible show some _ = some _); rfl) | (focus (with_reducible show fgK _ _ _ = _); first | with_reducible apply fg_nx | with_reducible apply fg_ct | with_reducible exact fg_bk | with_reducible exact fg_rt | exact fg_rt) | (focus (with_reducible show forGo _ _ _ _ = _); first | with_reducible exact f_nil | with_reducible apply f_cons) | (focus (with_reducible show _ ≤ sizeLine); first | exact sz_le rfl | exact sz_leO (by first | omega | (simp; done) | (simp; omega))) | (focus (with_reducible show _ < sizeLine); first | exact sz_lt rfl | exact sz_ltO (by first | omega | (simp; done) | (simp; omega))) | (focus (with_reducible show ixN _ _ = _); first | exact ix0 | rfl) | (focus (with_reducible show -(2 ^ 63) ≤ _ ∧ _ < 2 ^ 63); exact ⟨by omega, by omega⟩) | with_reducible apply r_cmp2z | (focus (with_reducible show List.length _ = _); rfl) | (focus (with_reducible show List.getLast? _ = _); rfl))
      · exact cs_1e (G := B.G) (CL := B.CL) (C := evF B m) (e := e16_0) (ρ := [some (.val (.str (mkS l))), some (.val (sign c))]) (o := .val (sign c)) (by unfold e16_0; repeat (first | (focus (with_reducible show getS _ _ = _); rfl) | (focus (with_reducible show ev _ _ _ _ false _ = _); first | with_reducible apply r_var | with_reducible exact r_lit | with_reducible apply r_op | with_reducible apply r_callE | with_reducible apply r_tup | with_reducible apply r_frz | with_reducible apply r_and | with_reducible apply r_or | with_reducible apply r_not | with_reducible apply (r_mop rfl) | with_reducible apply r_mopB | with_reducible apply r_lst | with_reducible apply r_mv | with_reducible apply r_sh | with_reducible apply r_glob | with_reducible apply r_cmp2 | with_reducible apply r_ite | with_reducible apply r_bw | with_reducible apply r_meth | with_reducible apply r_new | with_reducible apply r_pop | with_reducible apply r_popAt | with_reducible exact r_dct | with_reducible exact r_dctT | with_reducible apply r_dctOf) | (focus (with_reducible show ev _ _ _ _ true _ = _); first | with_reducible apply t_op | with_reducible apply t_call | with_reducible apply r_and | with_reducible apply r_or | with_reducible apply r_not | with_reducible apply t_var | with_reducible apply t_bw | with_reducible apply r_cmp2 | with_reducible apply t_mop | with_reducible apply t_meth | with_reducible apply t_lit) | (focus (with_reducible show evO _ _ _ _ _ = _); first | with_reducible apply (o_cons rfl) | with_reducible exact o_nil | with_reducible apply o_bw | rfl) | (focus (with_reducible show prim _ _ = _); first | (focus (with_reducible show prim .mod _ = _); exact p_mod (by omega)) | (focus (with_reducible show prim .fdiv _ = _); exact p_fdiv ⟨by omega, by omega⟩) | (focus (with_reducible show prim .mul _ = _); first | exact p_mul2 ⟨by omega, by omega⟩ | exact p_mul1 ⟨by omega, by omega⟩) | rfl) | (focus (with_reducible show O.frz _ = _); rfl) | (focus (with_reducible show truth _ = _); rfl) | (focus (with_reducible show evV _ _ _ _ _ = _); first | with_reducible apply v_cons | with_reducible exact v_nil | rfl) | (focus (with_reducible show evS _ _ _ _ _ _ = _); first | with_reducible apply s_asg | with_reducible apply s_ite | with_reducible apply s_ret | with_reducible apply s_for | with_reducible apply s_app | with_reducible apply s_setI | with_reducible apply s_expr | with_reducible apply s_unp | with_reducible apply s_aug | with_reducible apply s_while | with_reducible apply s_ext | with_reducible apply s_rev | with_reducible exact s_retN | with_reducible exact s_pass | with_reducible exact s_brk | with_reducible exact s_cont) | (focus (with_reducible show evSs _ _ _ _ _ _ = _); first | with_reducible apply ss_cons | with_reducible exact ss_nil | rfl) | (focus (with_reducible show flK _ _ _ = _); first | with_reducible apply fl_nx | with_reducible exact fl_rt | with_reducible exact fl_bk | with_reducible exact fl_ct | exact fl_rt) | (focus (with_reducible show evA _ _ _ _ _ = _); first | with_reducible apply (a_cons rfl) | with_reducible apply a_rf | with_reducible exact a_nil | with_reducible apply a_fr | rfl) | (focus (with_reducible show takeA _ _ _ = _); rfl) | (focus (with_reducible show giveA _ _ _ = _); rfl) | ((with_reducible apply cond_t); focus (first | rfl | assumption | (simp [*]; done))) | ((with_reducible apply cond_f); focus (first | rfl | assumption | (simp [*]; done))) | (focus (with_reducible show rcv _ _ = _); rfl) | (focus (with_reducible show iterD _ _ = _); rfl) | (focus (with_reducible show plainS _ _ = _); rfl) | (focus (with_reducible show bindT _ _ _ = _); rfl) | (focus (with_reducible show setO _ _ _ _ = _); rfl) | (focus (with_reducible show getElem? _ _ = _); rfl) | (focus (with_reducible show some _ = some _); rfl) | (focus (with_reducible show fgK _ _ _ = _); first | with_reducible apply fg_nx | with_reducible apply fg_ct | with_reducible exact fg_bk | with_reducible exact fg_rt | exact fg_rt) | (focus (with_reducible show forGo _ _ _ _ = _); first | with_reducible exact f_nil | with_reducible apply f_cons) | (focus (with_reducible show _ ≤ sizeLine); first | exact sz_le rfl | exact sz_leO (by first | omega | (simp; done) | (simp; omega))) | (focus (with_reducible show _ < sizeLine); first | exact sz_lt rfl | exact sz_ltO (by first | omega | (simp; done) | (simp; omega))) | (focus (with_reducible show ixN _ _ = _); first | exact ix0 | rfl) | (focus (with_reducible show -(2 ^ 63) ≤ _ ∧ _ < 2 ^ 63); exact ⟨by omega, by omega⟩) | with_reducible apply r_cmp2z | (focus (with_reducible show List.length _ = _); rfl) | (focus (with_reducible show List.getLast? _ = _); rfl))))
  have ef : (l.map sign).filter (fun x => match x with | .str ⟨⟨[c]⟩⟩ => !lw c | _ => false) = (l.filter fun c => !lw c).map sign := by
    rw [List.filter_map]; rfl
  rw [ef] at hc
  have hp : prim .eq [.lst ((l.filter fun c => !lw c).map sign), .lst []] = some (.val (.bl (l.all lw))) := by
    rw [p_eqNil fun c hc => ha c (List.mem_filter.mp hc).1]
    rw [filt_all]
  have hz : (l.filter fun c => !lw c).length ≤ 1000 := Nat.le_trans (List.length_filter_le _ _) hl
  apply r_fn (F := ⟨1, 2, none, b16⟩) rfl rfl
  · unfold b16
    dsimp only
    repeat (first | (focus (with_reducible show getS _ _ = _); rfl) | (focus (with_reducible show ev _ _ _ _ false _ = _); first | with_reducible apply r_var | with_reducible exact r_lit | with_reducible apply r_op | with_reducible apply r_callE | with_reducible apply r_tup | with_reducible apply r_frz | with_reducible apply r_and | with_reducible apply r_or | with_reducible apply r_not | with_reducible apply (r_mop rfl) | with_reducible apply r_mopB | with_reducible apply r_lst | with_reducible apply r_mv | with_reducible apply r_sh | with_reducible apply r_glob | with_reducible apply r_cmp2 | with_reducible apply r_comp | with_reducible apply r_ite | with_reducible apply r_bw | with_reducible apply r_meth | with_reducible apply r_new | with_reducible apply r_pop | with_reducible apply r_popAt | with_reducible exact r_dct | with_reducible exact r_dctT | with_reducible apply r_dctOf) | (focus (with_reducible show ev _ _ _ _ true _ = _); first | with_reducible apply t_op | with_reducible apply t_call | with_reducible apply r_and | with_reducible apply r_or | with_reducible apply r_not | with_reducible apply t_var | with_reducible apply t_bw | with_reducible apply r_cmp2 | with_reducible apply t_mop | with_reducible apply t_meth | with_reducible apply t_lit | with_reducible apply r_comp) | (focus (with_reducible show evO _ _ _ _ _ = _); first | with_reducible apply (o_cons rfl) | with_reducible exact o_nil | with_reducible apply o_bw | rfl) | (focus (with_reducible show prim _ _ = _); first | (focus (with_reducible show prim .mod _ = _); exact p_mod (by omega)) | (focus (with_reducible show prim .fdiv _ = _); exact p_fdiv ⟨by omega, by omega⟩) | (focus (with_reducible show prim .mul _ = _); first | exact p_mul2 ⟨by omega, by omega⟩ | exact p_mul1 ⟨by omega, by omega⟩) | exact hp | rfl) | (focus (with_reducible show O.frz _ = _); rfl) | (focus (with_reducible show truth _ = _); rfl) | (focus (with_reducible show evV _ _ _ _ _ = _); first | with_reducible apply v_cons | with_reducible exact v_nil | rfl) | (focus (with_reducible show evS _ _ _ _ _ _ = _); first | with_reducible apply s_asg | with_reducible apply s_ite | with_reducible apply s_ret | with_reducible apply s_for | with_reducible apply s_app | with_reducible apply s_setI | with_reducible apply s_expr | with_reducible apply s_unp | with_reducible apply s_aug | with_reducible apply s_while | with_reducible apply s_ext | with_reducible apply s_rev | with_reducible exact s_retN | with_reducible exact s_pass | with_reducible exact s_brk | with_reducible exact s_cont) | (focus (with_reducible show evSs _ _ _ _ _ _ = _); first | with_reducible apply ss_cons | with_reducible exact ss_nil | rfl) | (focus (with_reducible show flK _ _ _ = _); first | with_reducible apply fl_nx | with_reducible exact fl_rt | with_reducible exact fl_bk | with_reducible exact fl_ct | exact fl_rt) | (focus (with_reducible show evA _ _ _ _ _ = _); first | with_reducible apply (a_cons rfl) | with_reducible apply a_rf | with_reducible exact a_nil | with_reducible apply a_fr | rfl) | (focus (with_reducible show takeA _ _ _ = _); rfl) | (focus (with_reducible show giveA _ _ _ = _); rfl) | ((with_reducible apply cond_t); focus (first | rfl | assumption | (simp [*]; done))) | ((with_reducible apply cond_f); focus (first | rfl | assumption | (simp [*]; done))) | (focus (with_reducible show iterD .plain _ = _); exact iter_S l) | (focus (with_reducible show compGo _ _ _ = _); exact hc) | (focus (with_reducible show _ ≤ sizeLine); exact sz_leO (by simp; simp at hz; omega)) | (focus (with_reducible show rcv _ _ = _); rfl) | (focus (with_reducible show iterD _ _ = _); rfl) | (focus (with_reducible show plainS _ _ = _); rfl) | (focus (with_reducible show bindT _ _ _ = _); rfl) | (focus (with_reducible show setO _ _ _ _ = _); rfl) | (focus (with_reducible show getElem? _ _ = _); rfl) | (focus (with_reducible show some _ = some _); rfl) | (focus (with_reducible show fgK _ _ _ = _); first | with_reducible apply fg_nx | with_reducible apply fg_ct | with_reducible exact fg_bk | with_reducible exact fg_rt | exact fg_rt) | (focus (with_reducible show forGo _ _ _ _ = _); first | with_reducible exact f_nil | with_reducible apply f_cons) | (focus (with_reducible show _ ≤ sizeLine); first | exact sz_le rfl | exact sz_leO (by first | omega | (simp; done) | (simp; omega))) | (focus (with_reducible show _ < sizeLine); first | exact sz_lt rfl | exact sz_ltO (by first | omega | (simp; done) | (simp; omega))) | (focus (with_reducible show ixN _ _ = _); first | exact ix0 | rfl) | (focus (with_reducible show -(2 ^ 63) ≤ _ ∧ _ < 2 ^ 63); exact ⟨by omega, by omega⟩) | with_reducible apply r_cmp2z | (focus (with_reducible show List.length _ = _); rfl) | (focus (with_reducible show List.getLast? _ = _); rfl))
  · rfl

theorem name_ok (m : Nat) (hm : 2 ≤ m) (l : List Nat) (hl : l.length ≤ 1000) : evF B m 12 [.val (.str (mkS l))] = some (.val (.bl (nameB l)), [some (.val (.str (mkS l)))]) := by
  obtain ⟨m, rfl⟩ : ∃ k, m = k + 1 := ⟨m - 1, by omega⟩
  have ha := allin_ok m (by omega) l hl "abcdefghijklmnopqrstuvwxyz"
  have hL : ev B.G B.CL (evF B m) (.cmp2 .le .le (.lit (.int 1)) (.op .len [.var 0]) (.glob 0)) true [some (.val (.str (mkS l)))] = some (.val (.bl (lenB 8 l)), [some (.val (.str (mkS l)))]) :=
    cmp_sym (o0 := .val (.int 1)) (o1 := .val (.int l.length)) (o2 := .val (.int 8)) r_lit (by repeat (first | (focus (with_reducible show getS _ _ = _); rfl) | (focus (with_reducible show ev _ _ _ _ false _ = _); first | with_reducible apply r_var | with_reducible exact r_lit | with_reducible apply r_op | with_reducible apply r_callE | with_reducible apply r_tup | with_reducible apply r_frz | with_reducible apply r_and | with_reducible apply r_or | with_reducible apply r_not | with_reducible apply (r_mop rfl) | with_reducible apply r_mopB | with_reducible apply r_lst | with_reducible apply r_mv | with_reducible apply r_sh | with_reducible apply r_glob | with_reducible apply r_cmp2 | with_reducible apply r_ite | with_reducible apply r_bw | with_reducible apply r_meth | with_reducible apply r_new | with_reducible apply r_pop | with_reducible apply r_popAt | with_reducible exact r_dct | with_reducible exact r_dctT | with_reducible apply r_dctOf) | (focus (with_reducible show ev _ _ _ _ true _ = _); first | with_reducible apply t_op | with_reducible apply t_call | with_reducible apply r_and | with_reducible apply r_or | with_reducible apply r_not | with_reducible apply t_var | with_reducible apply t_bw | with_reducible apply r_cmp2 | with_reducible apply t_mop | with_reducible apply t_meth | with_reducible apply t_lit) | (focus (with_reducible show evO _ _ _ _ _ = _); first | with_reducible apply (o_cons rfl) | with_reducible exact o_nil | with_reducible apply o_bw | rfl) | (focus (with_reducible show prim _ _ = _); first | (focus (with_reducible show prim .mod _ = _); exact p_mod (by omega)) | (focus (with_reducible show prim .fdiv _ = _); exact p_fdiv ⟨by omega, by omega⟩) | (focus (with_reducible show prim .mul _ = _); first | exact p_mul2 ⟨by omega, by omega⟩ | exact p_mul1 ⟨by omega, by omega⟩) | exact p_lenS hl | rfl) | (focus (with_reducible show O.frz _ = _); rfl) | (focus (with_reducible show truth _ = _); rfl) | (focus (with_reducible show evV _ _ _ _ _ = _); first | with_reducible apply v_cons | with_reducible exact v_nil | rfl) | (focus (with_reducible show evS _ _ _ _ _ _ = _); first | with_reducible apply s_asg | with_reducible apply s_ite | with_reducible apply s_ret | with_reducible apply s_for | with_reducible apply s_app | with_reducible apply s_setI | with_reducible apply s_expr | with_reducible apply s_unp | with_reducible apply s_aug | with_reducible apply s_while | with_reducible apply s_ext | with_reducible apply s_rev | with_reducible exact s_retN | with_reducible exact s_pass | with_reducible exact s_brk | with_reducible exact s_cont) | (focus (with_reducible show evSs _ _ _ _ _ _ = _); first | with_reducible apply ss_cons | with_reducible exact ss_nil | rfl) | (focus (with_reducible show flK _ _ _ = _); first | with_reducible apply fl_nx | with_reducible exact fl_rt | with_reducible exact fl_bk | with_reducible exact fl_ct | exact fl_rt) | (focus (with_reducible show evA _ _ _ _ _ = _); first | with_reducible apply (a_cons rfl) | with_reducible apply a_rf | with_reducible exact a_nil | with_reducible apply a_fr | rfl) | (focus (with_reducible show takeA _ _ _ = _); rfl) | (focus (with_reducible show giveA _ _ _ = _); rfl) | ((with_reducible apply cond_t); focus (first | rfl | assumption | (simp [*]; done))) | ((with_reducible apply cond_f); focus (first | rfl | assumption | (simp [*]; done))) | (focus (with_reducible show rcv _ _ = _); rfl) | (focus (with_reducible show iterD _ _ = _); rfl) | (focus (with_reducible show plainS _ _ = _); rfl) | (focus (with_reducible show bindT _ _ _ = _); rfl) | (focus (with_reducible show setO _ _ _ _ = _); rfl) | (focus (with_reducible show getElem? _ _ = _); rfl) | (focus (with_reducible show some _ = some _); rfl) | (focus (with_reducible show fgK _ _ _ = _); first | with_reducible apply fg_nx | with_reducible apply fg_ct | with_reducible exact fg_bk | with_reducible exact fg_rt | exact fg_rt) | (focus (with_reducible show forGo _ _ _ _ = _); first | with_reducible exact f_nil | with_reducible apply f_cons) | (focus (with_reducible show _ ≤ sizeLine); first | exact sz_le rfl | exact sz_leO (by first | omega | (simp; done) | (simp; omega))) | (focus (with_reducible show _ < sizeLine); first | exact sz_lt rfl | exact sz_ltO (by first | omega | (simp; done) | (simp; omega))) | (focus (with_reducible show ixN _ _ = _); first | exact ix0 | rfl) | (focus (with_reducible show -(2 ^ 63) ≤ _ ∧ _ < 2 ^ 63); exact ⟨by omega, by omega⟩) | with_reducible apply r_cmp2z | (focus (with_reducible show List.length _ = _); rfl) | (focus (with_reducible show List.getLast? _ = _); rfl))) (by repeat (first | (focus (with_reducible show getS _ _ = _); rfl) | (focus (with_reducible show ev _ _ _ _ false _ = _); first | with_reducible apply r_var | with_reducible exact r_lit | with_reducible apply r_op | with_reducible apply r_callE | with_reducible apply r_tup | with_reducible apply r_frz | with_reducible apply r_and | with_reducible apply r_or | with_reducible apply r_not | with_reducible apply (r_mop rfl) | with_reducible apply r_mopB | with_reducible apply r_lst | with_reducible apply r_mv | with_reducible apply r_sh | with_reducible apply r_glob | with_reducible apply r_cmp2 | with_reducible apply r_ite | with_reducible apply r_bw | with_reducible apply r_meth | with_reducible apply r_new | with_reducible apply r_pop | with_reducible apply r_popAt | with_reducible exact r_dct | with_reducible exact r_dctT | with_reducible apply r_dctOf) | (focus (with_reducible show ev _ _ _ _ true _ = _); first | with_reducible apply t_op | with_reducible apply t_call | with_reducible apply r_and | with_reducible apply r_or | with_reducible apply r_not | with_reducible apply t_var | with_reducible apply t_bw | with_reducible apply r_cmp2 | with_reducible apply t_mop | with_reducible apply t_meth | with_reducible apply t_lit) | (focus (with_reducible show evO _ _ _ _ _ = _); first | with_reducible apply (o_cons rfl) | with_reducible exact o_nil | with_reducible apply o_bw | rfl) | (focus (with_reducible show prim _ _ = _); first | (focus (with_reducible show prim .mod _ = _); exact p_mod (by omega)) | (focus (with_reducible show prim .fdiv _ = _); exact p_fdiv ⟨by omega, by omega⟩) | (focus (with_reducible show prim .mul _ = _); first | exact p_mul2 ⟨by omega, by omega⟩ | exact p_mul1 ⟨by omega, by omega⟩) | rfl) | (focus (with_reducible show O.frz _ = _); rfl) | (focus (with_reducible show truth _ = _); rfl) | (focus (with_reducible show evV _ _ _ _ _ = _); first | with_reducible apply v_cons | with_reducible exact v_nil | rfl) | (focus (with_reducible show evS _ _ _ _ _ _ = _); first | with_reducible apply s_asg | with_reducible apply s_ite | with_reducible apply s_ret | with_reducible apply s_for | with_reducible apply s_app | with_reducible apply s_setI | with_reducible apply s_expr | with_reducible apply s_unp | with_reducible apply s_aug | with_reducible apply s_while | with_reducible apply s_ext | with_reducible apply s_rev | with_reducible exact s_retN | with_reducible exact s_pass | with_reducible exact s_brk | with_reducible exact s_cont) | (focus (with_reducible show evSs _ _ _ _ _ _ = _); first | with_reducible apply ss_cons | with_reducible exact ss_nil | rfl) | (focus (with_reducible show flK _ _ _ = _); first | with_reducible apply fl_nx | with_reducible exact fl_rt | with_reducible exact fl_bk | with_reducible exact fl_ct | exact fl_rt) | (focus (with_reducible show evA _ _ _ _ _ = _); first | with_reducible apply (a_cons rfl) | with_reducible apply a_rf | with_reducible exact a_nil | with_reducible apply a_fr | rfl) | (focus (with_reducible show takeA _ _ _ = _); rfl) | (focus (with_reducible show giveA _ _ _ = _); rfl) | ((with_reducible apply cond_t); focus (first | rfl | assumption | (simp [*]; done))) | ((with_reducible apply cond_f); focus (first | rfl | assumption | (simp [*]; done))) | (focus (with_reducible show rcv _ _ = _); rfl) | (focus (with_reducible show iterD _ _ = _); rfl) | (focus (with_reducible show plainS _ _ = _); rfl) | (focus (with_reducible show bindT _ _ _ = _); rfl) | (focus (with_reducible show setO _ _ _ _ = _); rfl) | (focus (with_reducible show getElem? _ _ = _); rfl) | (focus (with_reducible show some _ = some _); rfl) | (focus (with_reducible show fgK _ _ _ = _); first | with_reducible apply fg_nx | with_reducible apply fg_ct | with_reducible exact fg_bk | with_reducible exact fg_rt | exact fg_rt) | (focus (with_reducible show forGo _ _ _ _ = _); first | with_reducible exact f_nil | with_reducible apply f_cons) | (focus (with_reducible show _ ≤ sizeLine); first | exact sz_le rfl | exact sz_leO (by first | omega | (simp; done) | (simp; omega))) | (focus (with_reducible show _ < sizeLine); first | exact sz_lt rfl | exact sz_ltO (by first | omega | (simp; done) | (simp; omega))) | (focus (with_reducible show ixN _ _ = _); first | exact ix0 | rfl) | (focus (with_reducible show -(2 ^ 63) ≤ _ ∧ _ < 2 ^ 63); exact ⟨by omega, by omega⟩) | with_reducible apply r_cmp2z | (focus (with_reducible show List.length _ = _); rfl) | (focus (with_reducible show List.getLast? _ = _); rfl))) rfl rfl
  have hR : ev B.G B.CL (evF B m) (.and (.call 17 [.var 0, .glob 3]) (.and (.op .notin [.var 0, .glob 2]) (.op .notin [.var 0, .glob 1]))) false [some (.val (.str (mkS l)))] = some (.val (.bl (l.all lw && (!decide (mkS l ∈ bar1) && !decide (mkS l ∈ bar2)))), [some (.val (.str (mkS l)))]) :=
    and_sym (by repeat (first | (focus (with_reducible show getS _ _ = _); rfl) | (focus (with_reducible show ev _ _ _ _ false _ = _); first | with_reducible apply r_var | with_reducible exact r_lit | with_reducible apply r_op | with_reducible apply r_callE | with_reducible apply r_tup | with_reducible apply r_frz | with_reducible apply r_and | with_reducible apply r_or | with_reducible apply r_not | with_reducible apply (r_mop rfl) | with_reducible apply r_mopB | with_reducible apply r_lst | with_reducible apply r_mv | with_reducible apply r_sh | with_reducible apply r_glob | with_reducible apply r_cmp2 | with_reducible apply r_ite | with_reducible apply r_bw | with_reducible apply r_meth | with_reducible apply r_new | with_reducible apply r_pop | with_reducible apply r_popAt | with_reducible exact r_dct | with_reducible exact r_dctT | with_reducible apply r_dctOf) | (focus (with_reducible show ev _ _ _ _ true _ = _); first | with_reducible apply t_op | with_reducible apply t_call | with_reducible apply r_and | with_reducible apply r_or | with_reducible apply r_not | with_reducible apply t_var | with_reducible apply t_bw | with_reducible apply r_cmp2 | with_reducible apply t_mop | with_reducible apply t_meth | with_reducible apply t_lit) | (focus (with_reducible show evO _ _ _ _ _ = _); first | with_reducible apply (o_cons rfl) | with_reducible exact o_nil | with_reducible apply o_bw | rfl) | (focus (with_reducible show prim _ _ = _); first | (focus (with_reducible show prim .mod _ = _); exact p_mod (by omega)) | (focus (with_reducible show prim .fdiv _ = _); exact p_fdiv ⟨by omega, by omega⟩) | (focus (with_reducible show prim .mul _ = _); first | exact p_mul2 ⟨by omega, by omega⟩ | exact p_mul1 ⟨by omega, by omega⟩) | rfl) | (focus (with_reducible show O.frz _ = _); rfl) | (focus (with_reducible show truth _ = _); rfl) | (focus (with_reducible show evV _ _ _ _ _ = _); first | with_reducible apply v_cons | with_reducible exact v_nil | rfl) | (focus (with_reducible show evS _ _ _ _ _ _ = _); first | with_reducible apply s_asg | with_reducible apply s_ite | with_reducible apply s_ret | with_reducible apply s_for | with_reducible apply s_app | with_reducible apply s_setI | with_reducible apply s_expr | with_reducible apply s_unp | with_reducible apply s_aug | with_reducible apply s_while | with_reducible apply s_ext | with_reducible apply s_rev | with_reducible exact s_retN | with_reducible exact s_pass | with_reducible exact s_brk | with_reducible exact s_cont) | (focus (with_reducible show evSs _ _ _ _ _ _ = _); first | with_reducible apply ss_cons | with_reducible exact ss_nil | rfl) | (focus (with_reducible show flK _ _ _ = _); first | with_reducible apply fl_nx | with_reducible exact fl_rt | with_reducible exact fl_bk | with_reducible exact fl_ct | exact fl_rt) | (focus (with_reducible show evA _ _ _ _ _ = _); first | with_reducible apply (a_cons rfl) | with_reducible apply a_rf | with_reducible exact a_nil | with_reducible apply a_fr | rfl) | (focus (with_reducible show evF _ _ _ _ = _); first | (focus (with_reducible show evF _ _ 17 _ = _);  exact ha)) | (focus (with_reducible show takeA _ _ _ = _); rfl) | (focus (with_reducible show giveA _ _ _ = _); rfl) | ((with_reducible apply cond_t); focus (first | rfl | assumption | (simp [*]; done))) | ((with_reducible apply cond_f); focus (first | rfl | assumption | (simp [*]; done))) | (focus (with_reducible show rcv _ _ = _); rfl) | (focus (with_reducible show iterD _ _ = _); rfl) | (focus (with_reducible show plainS _ _ = _); rfl) | (focus (with_reducible show bindT _ _ _ = _); rfl) | (focus (with_reducible show setO _ _ _ _ = _); rfl) | (focus (with_reducible show getElem? _ _ = _); rfl) | (focus (with_reducible show some _ = some _); rfl) | (focus (with_reducible show fgK _ _ _ = _); first | with_reducible apply fg_nx | with_reducible apply fg_ct | with_reducible exact fg_bk | with_reducible exact fg_rt | exact fg_rt) | (focus (with_reducible show forGo _ _ _ _ = _); first | with_reducible exact f_nil | with_reducible apply f_cons) | (focus (with_reducible show _ ≤ sizeLine); first | exact sz_le rfl | exact sz_leO (by first | omega | (simp; done) | (simp; omega))) | (focus (with_reducible show _ < sizeLine); first | exact sz_lt rfl | exact sz_ltO (by first | omega | (simp; done) | (simp; omega))) | (focus (with_reducible show ixN _ _ = _); first | exact ix0 | rfl) | (focus (with_reducible show -(2 ^ 63) ≤ _ ∧ _ < 2 ^ 63); exact ⟨by omega, by omega⟩) | with_reducible apply r_cmp2z | (focus (with_reducible show List.length _ = _); rfl) | (focus (with_reducible show List.getLast? _ = _); rfl))) (and_sym (by repeat (first | (focus (with_reducible show getS _ _ = _); rfl) | (focus (with_reducible show ev _ _ _ _ false _ = _); first | with_reducible apply r_var | with_reducible exact r_lit | with_reducible apply r_op | with_reducible apply r_callE | with_reducible apply r_tup | with_reducible apply r_frz | with_reducible apply r_and | with_reducible apply r_or | with_reducible apply r_not | with_reducible apply (r_mop rfl) | with_reducible apply r_mopB | with_reducible apply r_lst | with_reducible apply r_mv | with_reducible apply r_sh | with_reducible apply r_glob | with_reducible apply r_cmp2 | with_reducible apply r_ite | with_reducible apply r_bw | with_reducible apply r_meth | with_reducible apply r_new | with_reducible apply r_pop | with_reducible apply r_popAt | with_reducible exact r_dct | with_reducible exact r_dctT | with_reducible apply r_dctOf) | (focus (with_reducible show ev _ _ _ _ true _ = _); first | with_reducible apply t_op | with_reducible apply t_call | with_reducible apply r_and | with_reducible apply r_or | with_reducible apply r_not | with_reducible apply t_var | with_reducible apply t_bw | with_reducible apply r_cmp2 | with_reducible apply t_mop | with_reducible apply t_meth | with_reducible apply t_lit) | (focus (with_reducible show evO _ _ _ _ _ = _); first | with_reducible apply (o_cons rfl) | with_reducible exact o_nil | with_reducible apply o_bw | rfl) | (focus (with_reducible show prim _ _ = _); first | (focus (with_reducible show prim .mod _ = _); exact p_mod (by omega)) | (focus (with_reducible show prim .fdiv _ = _); exact p_fdiv ⟨by omega, by omega⟩) | (focus (with_reducible show prim .mul _ = _); first | exact p_mul2 ⟨by omega, by omega⟩ | exact p_mul1 ⟨by omega, by omega⟩) | exact p_ninTs (ss := bar1) | rfl) | (focus (with_reducible show O.frz _ = _); rfl) | (focus (with_reducible show truth _ = _); rfl) | (focus (with_reducible show evV _ _ _ _ _ = _); first | with_reducible apply v_cons | with_reducible exact v_nil | rfl) | (focus (with_reducible show evS _ _ _ _ _ _ = _); first | with_reducible apply s_asg | with_reducible apply s_ite | with_reducible apply s_ret | with_reducible apply s_for | with_reducible apply s_app | with_reducible apply s_setI | with_reducible apply s_expr | with_reducible apply s_unp | with_reducible apply s_aug | with_reducible apply s_while | with_reducible apply s_ext | with_reducible apply s_rev | with_reducible exact s_retN | with_reducible exact s_pass | with_reducible exact s_brk | with_reducible exact s_cont) | (focus (with_reducible show evSs _ _ _ _ _ _ = _); first | with_reducible apply ss_cons | with_reducible exact ss_nil | rfl) | (focus (with_reducible show flK _ _ _ = _); first | with_reducible apply fl_nx | with_reducible exact fl_rt | with_reducible exact fl_bk | with_reducible exact fl_ct | exact fl_rt) | (focus (with_reducible show evA _ _ _ _ _ = _); first | with_reducible apply (a_cons rfl) | with_reducible apply a_rf | with_reducible exact a_nil | with_reducible apply a_fr | rfl) | (focus (with_reducible show takeA _ _ _ = _); rfl) | (focus (with_reducible show giveA _ _ _ = _); rfl) | ((with_reducible apply cond_t); focus (first | rfl | assumption | (simp [*]; done))) | ((with_reducible apply cond_f); focus (first | rfl | assumption | (simp [*]; done))) | (focus (with_reducible show rcv _ _ = _); rfl) | (focus (with_reducible show iterD _ _ = _); rfl) | (focus (with_reducible show plainS _ _ = _); rfl) | (focus (with_reducible show bindT _ _ _ = _); rfl) | (focus (with_reducible show setO _ _ _ _ = _); rfl) | (focus (with_reducible show getElem? _ _ = _); rfl) | (focus (with_reducible show some _ = some _); rfl) | (focus (with_reducible show fgK _ _ _ = _); first | with_reducible apply fg_nx | with_reducible apply fg_ct | with_reducible exact fg_bk | with_reducible exact fg_rt | exact fg_rt) | (focus (with_reducible show forGo _ _ _ _ = _); first | with_reducible exact f_nil | with_reducible apply f_cons) | (focus (with_reducible show _ ≤ sizeLine); first | exact sz_le rfl | exact sz_leO (by first | omega | (simp; done) | (simp; omega))) | (focus (with_reducible show _ < sizeLine); first | exact sz_lt rfl | exact sz_ltO (by first | omega | (simp; done) | (simp; omega))) | (focus (with_reducible show ixN _ _ = _); first | exact ix0 | rfl) | (focus (with_reducible show -(2 ^ 63) ≤ _ ∧ _ < 2 ^ 63); exact ⟨by omega, by omega⟩) | with_reducible apply r_cmp2z | (focus (with_reducible show List.length _ = _); rfl) | (focus (with_reducible show List.getLast? _ = _); rfl))) (by repeat (first | (focus (with_reducible show getS _ _ = _); rfl) | (focus (with_reducible show ev _ _ _ _ false _ = _); first | with_reducible apply r_var | with_reducible exact r_lit | with_reducible apply r_op | with_reducible apply r_callE | with_reducible apply r_tup | with_reducible apply r_frz | with_reducible apply r_and | with_reducible apply r_or | with_reducible apply r_not | with_reducible apply (r_mop rfl) | with_reducible apply r_mopB | with_reducible apply r_lst | with_reducible apply r_mv | with_reducible apply r_sh | with_reducible apply r_glob | with_reducible apply r_cmp2 | with_reducible apply r_ite | with_reducible apply r_bw | with_reducible apply r_meth | with_reducible apply r_new | with_reducible apply r_pop | with_reducible apply r_popAt | with_reducible exact r_dct | with_reducible exact r_dctT | with_reducible apply r_dctOf) | (focus (with_reducible show ev _ _ _ _ true _ = _); first | with_reducible apply t_op | with_reducible apply t_call | with_reducible apply r_and | with_reducible apply r_or | with_reducible apply r_not | with_reducible apply t_var | with_reducible apply t_bw | with_reducible apply r_cmp2 | with_reducible apply t_mop | with_reducible apply t_meth | with_reducible apply t_lit) | (focus (with_reducible show evO _ _ _ _ _ = _); first | with_reducible apply (o_cons rfl) | with_reducible exact o_nil | with_reducible apply o_bw | rfl) | (focus (with_reducible show prim _ _ = _); first | (focus (with_reducible show prim .mod _ = _); exact p_mod (by omega)) | (focus (with_reducible show prim .fdiv _ = _); exact p_fdiv ⟨by omega, by omega⟩) | (focus (with_reducible show prim .mul _ = _); first | exact p_mul2 ⟨by omega, by omega⟩ | exact p_mul1 ⟨by omega, by omega⟩) | exact p_ninTs (ss := bar2) | rfl) | (focus (with_reducible show O.frz _ = _); rfl) | (focus (with_reducible show truth _ = _); rfl) | (focus (with_reducible show evV _ _ _ _ _ = _); first | with_reducible apply v_cons | with_reducible exact v_nil | rfl) | (focus (with_reducible show evS _ _ _ _ _ _ = _); first | with_reducible apply s_asg | with_reducible apply s_ite | with_reducible apply s_ret | with_reducible apply s_for | with_reducible apply s_app | with_reducible apply s_setI | with_reducible apply s_expr | with_reducible apply s_unp | with_reducible apply s_aug | with_reducible apply s_while | with_reducible apply s_ext | with_reducible apply s_rev | with_reducible exact s_retN | with_reducible exact s_pass | with_reducible exact s_brk | with_reducible exact s_cont) | (focus (with_reducible show evSs _ _ _ _ _ _ = _); first | with_reducible apply ss_cons | with_reducible exact ss_nil | rfl) | (focus (with_reducible show flK _ _ _ = _); first | with_reducible apply fl_nx | with_reducible exact fl_rt | with_reducible exact fl_bk | with_reducible exact fl_ct | exact fl_rt) | (focus (with_reducible show evA _ _ _ _ _ = _); first | with_reducible apply (a_cons rfl) | with_reducible apply a_rf | with_reducible exact a_nil | with_reducible apply a_fr | rfl) | (focus (with_reducible show takeA _ _ _ = _); rfl) | (focus (with_reducible show giveA _ _ _ = _); rfl) | ((with_reducible apply cond_t); focus (first | rfl | assumption | (simp [*]; done))) | ((with_reducible apply cond_f); focus (first | rfl | assumption | (simp [*]; done))) | (focus (with_reducible show rcv _ _ = _); rfl) | (focus (with_reducible show iterD _ _ = _); rfl) | (focus (with_reducible show plainS _ _ = _); rfl) | (focus (with_reducible show bindT _ _ _ = _); rfl) | (focus (with_reducible show setO _ _ _ _ = _); rfl) | (focus (with_reducible show getElem? _ _ = _); rfl) | (focus (with_reducible show some _ = some _); rfl) | (focus (with_reducible show fgK _ _ _ = _); first | with_reducible apply fg_nx | with_reducible apply fg_ct | with_reducible exact fg_bk | with_reducible exact fg_rt | exact fg_rt) | (focus (with_reducible show forGo _ _ _ _ = _); first | with_reducible exact f_nil | with_reducible apply f_cons) | (focus (with_reducible show _ ≤ sizeLine); first | exact sz_le rfl | exact sz_leO (by first | omega | (simp; done) | (simp; omega))) | (focus (with_reducible show _ < sizeLine); first | exact sz_lt rfl | exact sz_ltO (by first | omega | (simp; done) | (simp; omega))) | (focus (with_reducible show ixN _ _ = _); first | exact ix0 | rfl) | (focus (with_reducible show -(2 ^ 63) ≤ _ ∧ _ < 2 ^ 63); exact ⟨by omega, by omega⟩) | with_reducible apply r_cmp2z | (focus (with_reducible show List.length _ = _); rfl) | (focus (with_reducible show List.getLast? _ = _); rfl))) rfl) rfl
  have hn : nameB l = (lenB 8 l && (l.all lw && (!decide (mkS l ∈ bar1) && !decide (mkS l ∈ bar2)))) := by unfold nameB; rw [bar_two, Bool.not_or]
  cases hB : lenB 8 l with
  | false =>
    rw [hB] at hL hn
    rw [hn, Bool.false_and]
    apply r_fn (F := ⟨1, 1, none, b12⟩) rfl rfl
    · unfold b12
      dsimp only
      repeat (first | exact hL | (focus (with_reducible show getS _ _ = _); rfl) | (focus (with_reducible show ev _ _ _ _ false _ = _); first | with_reducible apply r_var | with_reducible exact r_lit | with_reducible apply r_op | with_reducible apply r_callE | with_reducible apply r_tup | with_reducible apply r_frz | with_reducible apply r_and | with_reducible apply r_or | with_reducible apply r_not | with_reducible apply (r_mop rfl) | with_reducible apply r_mopB | with_reducible apply r_lst | with_reducible apply r_mv | with_reducible apply r_sh | with_reducible apply r_glob | with_reducible apply r_cmp2 | with_reducible apply r_ite | with_reducible apply r_bw | with_reducible apply r_meth | with_reducible apply r_new | with_reducible apply r_pop | with_reducible apply r_popAt | with_reducible exact r_dct | with_reducible exact r_dctT | with_reducible apply r_dctOf) | (focus (with_reducible show ev _ _ _ _ true _ = _); first | with_reducible apply t_op | with_reducible apply t_call | with_reducible apply r_and | with_reducible apply r_or | with_reducible apply r_not | with_reducible apply t_var | with_reducible apply t_bw | with_reducible apply r_cmp2 | with_reducible apply t_mop | with_reducible apply t_meth | with_reducible apply t_lit) | (focus (with_reducible show evO _ _ _ _ _ = _); first | with_reducible apply (o_cons rfl) | with_reducible exact o_nil | with_reducible apply o_bw | rfl) | (focus (with_reducible show prim _ _ = _); first | (focus (with_reducible show prim .mod _ = _); exact p_mod (by omega)) | (focus (with_reducible show prim .fdiv _ = _); exact p_fdiv ⟨by omega, by omega⟩) | (focus (with_reducible show prim .mul _ = _); first | exact p_mul2 ⟨by omega, by omega⟩ | exact p_mul1 ⟨by omega, by omega⟩) | rfl) | (focus (with_reducible show O.frz _ = _); rfl) | (focus (with_reducible show truth _ = _); rfl) | (focus (with_reducible show evV _ _ _ _ _ = _); first | with_reducible apply v_cons | with_reducible exact v_nil | rfl) | (focus (with_reducible show evS _ _ _ _ _ _ = _); first | with_reducible apply s_asg | with_reducible apply s_ite | with_reducible apply s_ret | with_reducible apply s_for | with_reducible apply s_app | with_reducible apply s_setI | with_reducible apply s_expr | with_reducible apply s_unp | with_reducible apply s_aug | with_reducible apply s_while | with_reducible apply s_ext | with_reducible apply s_rev | with_reducible exact s_retN | with_reducible exact s_pass | with_reducible exact s_brk | with_reducible exact s_cont) | (focus (with_reducible show evSs _ _ _ _ _ _ = _); first | with_reducible apply ss_cons | with_reducible exact ss_nil | rfl) | (focus (with_reducible show flK _ _ _ = _); first | with_reducible apply fl_nx | with_reducible exact fl_rt | with_reducible exact fl_bk | with_reducible exact fl_ct | exact fl_rt) | (focus (with_reducible show evA _ _ _ _ _ = _); first | with_reducible apply (a_cons rfl) | with_reducible apply a_rf | with_reducible exact a_nil | with_reducible apply a_fr | rfl) | (focus (with_reducible show takeA _ _ _ = _); rfl) | (focus (with_reducible show giveA _ _ _ = _); rfl) | ((with_reducible apply cond_t); focus (first | rfl | assumption | (simp [*]; done))) | ((with_reducible apply cond_f); focus (first | rfl | assumption | (simp [*]; done))) | (focus (with_reducible show rcv _ _ = _); rfl) | (focus (with_reducible show iterD _ _ = _); rfl) | (focus (with_reducible show plainS _ _ = _); rfl) | (focus (with_reducible show bindT _ _ _ = _); rfl) | (focus (with_reducible show setO _ _ _ _ = _); rfl) | (focus (with_reducible show getElem? _ _ = _); rfl) | (focus (with_reducible show some _ = some _); rfl) | (focus (with_reducible show fgK _ _ _ = _); first | with_reducible apply fg_nx | with_reducible apply fg_ct | with_reducible exact fg_bk | with_reducible exact fg_rt | exact fg_rt) | (focus (with_reducible show forGo _ _ _ _ = _); first | with_reducible exact f_nil | with_reducible apply f_cons) | (focus (with_reducible show _ ≤ sizeLine); first | exact sz_le rfl | exact sz_leO (by first | omega | (simp; done) | (simp; omega))) | (focus (with_reducible show _ < sizeLine); first | exact sz_lt rfl | exact sz_ltO (by first | omega | (simp; done) | (simp; omega))) | (focus (with_reducible show ixN _ _ = _); first | exact ix0 | rfl) | (focus (with_reducible show -(2 ^ 63) ≤ _ ∧ _ < 2 ^ 63); exact ⟨by omega, by omega⟩) | with_reducible apply r_cmp2z | (focus (with_reducible show List.length _ = _); rfl) | (focus (with_reducible show List.getLast? _ = _); rfl))
    · rfl
  | true =>
    rw [hB] at hL hn
    rw [hn, Bool.true_and]
    apply r_fn (F := ⟨1, 1, none, b12⟩) rfl rfl
    · unfold b12
      dsimp only
      repeat (first | exact hL | exact hR | (focus (with_reducible show getS _ _ = _); rfl) | (focus (with_reducible show ev _ _ _ _ false _ = _); first | with_reducible apply r_var | with_reducible exact r_lit | with_reducible apply r_op | with_reducible apply r_callE | with_reducible apply r_tup | with_reducible apply r_frz | with_reducible apply r_and | with_reducible apply r_or | with_reducible apply r_not | with_reducible apply (r_mop rfl) | with_reducible apply r_mopB | with_reducible apply r_lst | with_reducible apply r_mv | with_reducible apply r_sh | with_reducible apply r_glob | with_reducible apply r_cmp2 | with_reducible apply r_ite | with_reducible apply r_bw | with_reducible apply r_meth | with_reducible apply r_new | with_reducible apply r_pop | with_reducible apply r_popAt | with_reducible exact r_dct | with_reducible exact r_dctT | with_reducible apply r_dctOf) | (focus (with_reducible show ev _ _ _ _ true _ = _); first | with_reducible apply t_op | with_reducible apply t_call | with_reducible apply r_and | with_reducible apply r_or | with_reducible apply r_not | with_reducible apply t_var | with_reducible apply t_bw | with_reducible apply r_cmp2 | with_reducible apply t_mop | with_reducible apply t_meth | with_reducible apply t_lit) | (focus (with_reducible show evO _ _ _ _ _ = _); first | with_reducible apply (o_cons rfl) | with_reducible exact o_nil | with_reducible apply o_bw | rfl) | (focus (with_reducible show prim _ _ = _); first | (focus (with_reducible show prim .mod _ = _); exact p_mod (by omega)) | (focus (with_reducible show prim .fdiv _ = _); exact p_fdiv ⟨by omega, by omega⟩) | (focus (with_reducible show prim .mul _ = _); first | exact p_mul2 ⟨by omega, by omega⟩ | exact p_mul1 ⟨by omega, by omega⟩) | rfl) | (focus (with_reducible show O.frz _ = _); rfl) | (focus (with_reducible show truth _ = _); rfl) | (focus (with_reducible show evV _ _ _ _ _ = _); first | with_reducible apply v_cons | with_reducible exact v_nil | rfl) | (focus (with_reducible show evS _ _ _ _ _ _ = _); first | with_reducible apply s_asg | with_reducible apply s_ite | with_reducible apply s_ret | with_reducible apply s_for | with_reducible apply s_app | with_reducible apply s_setI | with_reducible apply s_expr | with_reducible apply s_unp | with_reducible apply s_aug | with_reducible apply s_while | with_reducible apply s_ext | with_reducible apply s_rev | with_reducible exact s_retN | with_reducible exact s_pass | with_reducible exact s_brk | with_reducible exact s_cont) | (focus (with_reducible show evSs _ _ _ _ _ _ = _); first | with_reducible apply ss_cons | with_reducible exact ss_nil | rfl) | (focus (with_reducible show flK _ _ _ = _); first | with_reducible apply fl_nx | with_reducible exact fl_rt | with_reducible exact fl_bk | with_reducible exact fl_ct | exact fl_rt) | (focus (with_reducible show evA _ _ _ _ _ = _); first | with_reducible apply (a_cons rfl) | with_reducible apply a_rf | with_reducible exact a_nil | with_reducible apply a_fr | rfl) | (focus (with_reducible show takeA _ _ _ = _); rfl) | (focus (with_reducible show giveA _ _ _ = _); rfl) | ((with_reducible apply cond_t); focus (first | rfl | assumption | (simp [*]; done))) | ((with_reducible apply cond_f); focus (first | rfl | assumption | (simp [*]; done))) | (focus (with_reducible show rcv _ _ = _); rfl) | (focus (with_reducible show iterD _ _ = _); rfl) | (focus (with_reducible show plainS _ _ = _); rfl) | (focus (with_reducible show bindT _ _ _ = _); rfl) | (focus (with_reducible show setO _ _ _ _ = _); rfl) | (focus (with_reducible show getElem? _ _ = _); rfl) | (focus (with_reducible show some _ = some _); rfl) | (focus (with_reducible show fgK _ _ _ = _); first | with_reducible apply fg_nx | with_reducible apply fg_ct | with_reducible exact fg_bk | with_reducible exact fg_rt | exact fg_rt) | (focus (with_reducible show forGo _ _ _ _ = _); first | with_reducible exact f_nil | with_reducible apply f_cons) | (focus (with_reducible show _ ≤ sizeLine); first | exact sz_le rfl | exact sz_leO (by first | omega | (simp; done) | (simp; omega))) | (focus (with_reducible show _ < sizeLine); first | exact sz_lt rfl | exact sz_ltO (by first | omega | (simp; done) | (simp; omega))) | (focus (with_reducible show ixN _ _ = _); first | exact ix0 | rfl) | (focus (with_reducible show -(2 ^ 63) ≤ _ ∧ _ < 2 ^ 63); exact ⟨by omega, by omega⟩) | with_reducible apply r_cmp2z | (focus (with_reducible show List.length _ = _); rfl) | (focus (with_reducible show List.getLast? _ = _); rfl))
    · rfl
theorem mark_ok (m : Nat) (hm : 2 ≤ m) (l : List Nat) (hl : l.length ≤ 1000) : evF B m 13 [.val (.str (mkS l))] = some (.val (.bl (markB l)), [some (.val (.str (mkS l)))]) := by
  obtain ⟨m, rfl⟩ : ∃ k, m = k + 1 := ⟨m - 1, by omega⟩
  have hL : ev B.G B.CL (evF B m) (.cmp2 .le .le (.lit (.int 1)) (.op .len [.var 0]) (.glob 0)) true [some (.val (.str (mkS l)))] = some (.val (.bl (lenB 8 l)), [some (.val (.str (mkS l)))]) :=
    cmp_sym (o0 := .val (.int 1)) (o1 := .val (.int l.length)) (o2 := .val (.int 8)) r_lit (by repeat (first | (focus (with_reducible show getS _ _ = _); rfl) | (focus (with_reducible show ev _ _ _ _ false _ = _); first | with_reducible apply r_var | with_reducible exact r_lit | with_reducible apply r_op | with_reducible apply r_callE | with_reducible apply r_tup | with_reducible apply r_frz | with_reducible apply r_and | with_reducible apply r_or | with_reducible apply r_not | with_reducible apply (r_mop rfl) | with_reducible apply r_mopB | with_reducible apply r_lst | with_reducible apply r_mv | with_reducible apply r_sh | with_reducible apply r_glob | with_reducible apply r_cmp2 | with_reducible apply r_ite | with_reducible apply r_bw | with_reducible apply r_meth | with_reducible apply r_new | with_reducible apply r_pop | with_reducible apply r_popAt | with_reducible exact r_dct | with_reducible exact r_dctT | with_reducible apply r_dctOf) | (focus (with_reducible show ev _ _ _ _ true _ = _); first | with_reducible apply t_op | with_reducible apply t_call | with_reducible apply r_and | with_reducible apply r_or | with_reducible apply r_not | with_reducible apply t_var | with_reducible apply t_bw | with_reducible apply r_cmp2 | with_reducible apply t_mop | with_reducible apply t_meth | with_reducible apply t_lit) | (focus (with_reducible show evO _ _ _ _ _ = _); first | with_reducible apply (o_cons rfl) | with_reducible exact o_nil | with_reducible apply o_bw | rfl) | (focus (with_reducible show prim _ _ = _); first | (focus (with_reducible show prim .mod _ = _); exact p_mod (by omega)) | (focus (with_reducible show prim .fdiv _ = _); exact p_fdiv ⟨by omega, by omega⟩) | (focus (with_reducible show prim .mul _ = _); first | exact p_mul2 ⟨by omega, by omega⟩ | exact p_mul1 ⟨by omega, by omega⟩) | exact p_lenS hl | rfl) | (focus (with_reducible show O.frz _ = _); rfl) | (focus (with_reducible show truth _ = _); rfl) | (focus (with_reducible show evV _ _ _ _ _ = _); first | with_reducible apply v_cons | with_reducible exact v_nil | rfl) | (focus (with_reducible show evS _ _ _ _ _ _ = _); first | with_reducible apply s_asg | with_reducible apply s_ite | with_reducible apply s_ret | with_reducible apply s_for | with_reducible apply s_app | with_reducible apply s_setI | with_reducible apply s_expr | with_reducible apply s_unp | with_reducible apply s_aug | with_reducible apply s_while | with_reducible apply s_ext | with_reducible apply s_rev | with_reducible exact s_retN | with_reducible exact s_pass | with_reducible exact s_brk | with_reducible exact s_cont) | (focus (with_reducible show evSs _ _ _ _ _ _ = _); first | with_reducible apply ss_cons | with_reducible exact ss_nil | rfl) | (focus (with_reducible show flK _ _ _ = _); first | with_reducible apply fl_nx | with_reducible exact fl_rt | with_reducible exact fl_bk | with_reducible exact fl_ct | exact fl_rt) | (focus (with_reducible show evA _ _ _ _ _ = _); first | with_reducible apply (a_cons rfl) | with_reducible apply a_rf | with_reducible exact a_nil | with_reducible apply a_fr | rfl) | (focus (with_reducible show takeA _ _ _ = _); rfl) | (focus (with_reducible show giveA _ _ _ = _); rfl) | ((with_reducible apply cond_t); focus (first | rfl | assumption | (simp [*]; done))) | ((with_reducible apply cond_f); focus (first | rfl | assumption | (simp [*]; done))) | (focus (with_reducible show rcv _ _ = _); rfl) | (focus (with_reducible show iterD _ _ = _); rfl) | (focus (with_reducible show plainS _ _ = _); rfl) | (focus (with_reducible show bindT _ _ _ = _); rfl) | (focus (with_reducible show setO _ _ _ _ = _); rfl) | (focus (with_reducible show getElem? _ _ = _); rfl) | (focus (with_reducible show some _ = some _); rfl) | (focus (with_reducible show fgK _ _ _ = _); first | with_reducible apply fg_nx | with_reducible apply fg_ct | with_reducible exact fg_bk | with_reducible exact fg_rt | exact fg_rt) | (focus (with_reducible show forGo _ _ _ _ = _); first | with_reducible exact f_nil | with_reducible apply f_cons) | (focus (with_reducible show _ ≤ sizeLine); first | exact sz_le rfl | exact sz_leO (by first | omega | (simp; done) | (simp; omega))) | (focus (with_reducible show _ < sizeLine); first | exact sz_lt rfl | exact sz_ltO (by first | omega | (simp; done) | (simp; omega))) | (focus (with_reducible show ixN _ _ = _); first | exact ix0 | rfl) | (focus (with_reducible show -(2 ^ 63) ≤ _ ∧ _ < 2 ^ 63); exact ⟨by omega, by omega⟩) | with_reducible apply r_cmp2z | (focus (with_reducible show List.length _ = _); rfl) | (focus (with_reducible show List.getLast? _ = _); rfl))) (by repeat (first | (focus (with_reducible show getS _ _ = _); rfl) | (focus (with_reducible show ev _ _ _ _ false _ = _); first | with_reducible apply r_var | with_reducible exact r_lit | with_reducible apply r_op | with_reducible apply r_callE | with_reducible apply r_tup | with_reducible apply r_frz | with_reducible apply r_and | with_reducible apply r_or | with_reducible apply r_not | with_reducible apply (r_mop rfl) | with_reducible apply r_mopB | with_reducible apply r_lst | with_reducible apply r_mv | with_reducible apply r_sh | with_reducible apply r_glob | with_reducible apply r_cmp2 | with_reducible apply r_ite | with_reducible apply r_bw | with_reducible apply r_meth | with_reducible apply r_new | with_reducible apply r_pop | with_reducible apply r_popAt | with_reducible exact r_dct | with_reducible exact r_dctT | with_reducible apply r_dctOf) | (focus (with_reducible show ev _ _ _ _ true _ = _); first | with_reducible apply t_op | with_reducible apply t_call | with_reducible apply r_and | with_reducible apply r_or | with_reducible apply r_not | with_reducible apply t_var | with_reducible apply t_bw | with_reducible apply r_cmp2 | with_reducible apply t_mop | with_reducible apply t_meth | with_reducible apply t_lit) | (focus (with_reducible show evO _ _ _ _ _ = _); first | with_reducible apply (o_cons rfl) | with_reducible exact o_nil | with_reducible apply o_bw | rfl) | (focus (with_reducible show prim _ _ = _); first | (focus (with_reducible show prim .mod _ = _); exact p_mod (by omega)) | (focus (with_reducible show prim .fdiv _ = _); exact p_fdiv ⟨by omega, by omega⟩) | (focus (with_reducible show prim .mul _ = _); first | exact p_mul2 ⟨by omega, by omega⟩ | exact p_mul1 ⟨by omega, by omega⟩) | rfl) | (focus (with_reducible show O.frz _ = _); rfl) | (focus (with_reducible show truth _ = _); rfl) | (focus (with_reducible show evV _ _ _ _ _ = _); first | with_reducible apply v_cons | with_reducible exact v_nil | rfl) | (focus (with_reducible show evS _ _ _ _ _ _ = _); first | with_reducible apply s_asg | with_reducible apply s_ite | with_reducible apply s_ret | with_reducible apply s_for | with_reducible apply s_app | with_reducible apply s_setI | with_reducible apply s_expr | with_reducible apply s_unp | with_reducible apply s_aug | with_reducible apply s_while | with_reducible apply s_ext | with_reducible apply s_rev | with_reducible exact s_retN | with_reducible exact s_pass | with_reducible exact s_brk | with_reducible exact s_cont) | (focus (with_reducible show evSs _ _ _ _ _ _ = _); first | with_reducible apply ss_cons | with_reducible exact ss_nil | rfl) | (focus (with_reducible show flK _ _ _ = _); first | with_reducible apply fl_nx | with_reducible exact fl_rt | with_reducible exact fl_bk | with_reducible exact fl_ct | exact fl_rt) | (focus (with_reducible show evA _ _ _ _ _ = _); first | with_reducible apply (a_cons rfl) | with_reducible apply a_rf | with_reducible exact a_nil | with_reducible apply a_fr | rfl) | (focus (with_reducible show takeA _ _ _ = _); rfl) | (focus (with_reducible show giveA _ _ _ = _); rfl) | ((with_reducible apply cond_t); focus (first | rfl | assumption | (simp [*]; done))) | ((with_reducible apply cond_f); focus (first | rfl | assumption | (simp [*]; done))) | (focus (with_reducible show rcv _ _ = _); rfl) | (focus (with_reducible show iterD _ _ = _); rfl) | (focus (with_reducible show plainS _ _ = _); rfl) | (focus (with_reducible show bindT _ _ _ = _); rfl) | (focus (with_reducible show setO _ _ _ _ = _); rfl) | (focus (with_reducible show getElem? _ _ = _); rfl) | (focus (with_reducible show some _ = some _); rfl) | (focus (with_reducible show fgK _ _ _ = _); first | with_reducible apply fg_nx | with_reducible apply fg_ct | with_reducible exact fg_bk | with_reducible exact fg_rt | exact fg_rt) | (focus (with_reducible show forGo _ _ _ _ = _); first | with_reducible exact f_nil | with_reducible apply f_cons) | (focus (with_reducible show _ ≤ sizeLine); first | exact sz_le rfl | exact sz_leO (by first | omega | (simp; done) | (simp; omega))) | (focus (with_reducible show _ < sizeLine); first | exact sz_lt rfl | exact sz_ltO (by first | omega | (simp; done) | (simp; omega))) | (focus (with_reducible show ixN _ _ = _); first | exact ix0 | rfl) | (focus (with_reducible show -(2 ^ 63) ≤ _ ∧ _ < 2 ^ 63); exact ⟨by omega, by omega⟩) | with_reducible apply r_cmp2z | (focus (with_reducible show List.length _ = _); rfl) | (focus (with_reducible show List.getLast? _ = _); rfl))) rfl rfl
  cases hB : lenB 8 l with
  | false =>
    rw [hB] at hL
    have hn : markB l = false := by cases l <;> simp [markB, hB]
    rw [hn]
    apply r_fn (F := ⟨1, 1, none, b13⟩) rfl rfl
    · unfold b13
      dsimp only
      repeat (first | exact hL | (focus (with_reducible show getS _ _ = _); rfl) | (focus (with_reducible show ev _ _ _ _ false _ = _); first | with_reducible apply r_var | with_reducible exact r_lit | with_reducible apply r_op | with_reducible apply r_callE | with_reducible apply r_tup | with_reducible apply r_frz | with_reducible apply r_and | with_reducible apply r_or | with_reducible apply r_not | with_reducible apply (r_mop rfl) | with_reducible apply r_mopB | with_reducible apply r_lst | with_reducible apply r_mv | with_reducible apply r_sh | with_reducible apply r_glob | with_reducible apply r_cmp2 | with_reducible apply r_ite | with_reducible apply r_bw | with_reducible apply r_meth | with_reducible apply r_new | with_reducible apply r_pop | with_reducible apply r_popAt | with_reducible exact r_dct | with_reducible exact r_dctT | with_reducible apply r_dctOf) | (focus (with_reducible show ev _ _ _ _ true _ = _); first | with_reducible apply t_op | with_reducible apply t_call | with_reducible apply r_and | with_reducible apply r_or | with_reducible apply r_not | with_reducible apply t_var | with_reducible apply t_bw | with_reducible apply r_cmp2 | with_reducible apply t_mop | with_reducible apply t_meth | with_reducible apply t_lit) | (focus (with_reducible show evO _ _ _ _ _ = _); first | with_reducible apply (o_cons rfl) | with_reducible exact o_nil | with_reducible apply o_bw | rfl) | (focus (with_reducible show prim _ _ = _); first | (focus (with_reducible show prim .mod _ = _); exact p_mod (by omega)) | (focus (with_reducible show prim .fdiv _ = _); exact p_fdiv ⟨by omega, by omega⟩) | (focus (with_reducible show prim .mul _ = _); first | exact p_mul2 ⟨by omega, by omega⟩ | exact p_mul1 ⟨by omega, by omega⟩) | rfl) | (focus (with_reducible show O.frz _ = _); rfl) | (focus (with_reducible show truth _ = _); rfl) | (focus (with_reducible show evV _ _ _ _ _ = _); first | with_reducible apply v_cons | with_reducible exact v_nil | rfl) | (focus (with_reducible show evS _ _ _ _ _ _ = _); first | with_reducible apply s_asg | with_reducible apply s_ite | with_reducible apply s_ret | with_reducible apply s_for | with_reducible apply s_app | with_reducible apply s_setI | with_reducible apply s_expr | with_reducible apply s_unp | with_reducible apply s_aug | with_reducible apply s_while | with_reducible apply s_ext | with_reducible apply s_rev | with_reducible exact s_retN | with_reducible exact s_pass | with_reducible exact s_brk | with_reducible exact s_cont) | (focus (with_reducible show evSs _ _ _ _ _ _ = _); first | with_reducible apply ss_cons | with_reducible exact ss_nil | rfl) | (focus (with_reducible show flK _ _ _ = _); first | with_reducible apply fl_nx | with_reducible exact fl_rt | with_reducible exact fl_bk | with_reducible exact fl_ct | exact fl_rt) | (focus (with_reducible show evA _ _ _ _ _ = _); first | with_reducible apply (a_cons rfl) | with_reducible apply a_rf | with_reducible exact a_nil | with_reducible apply a_fr | rfl) | (focus (with_reducible show takeA _ _ _ = _); rfl) | (focus (with_reducible show giveA _ _ _ = _); rfl) | ((with_reducible apply cond_t); focus (first | rfl | assumption | (simp [*]; done))) | ((with_reducible apply cond_f); focus (first | rfl | assumption | (simp [*]; done))) | (focus (with_reducible show rcv _ _ = _); rfl) | (focus (with_reducible show iterD _ _ = _); rfl) | (focus (with_reducible show plainS _ _ = _); rfl) | (focus (with_reducible show bindT _ _ _ = _); rfl) | (focus (with_reducible show setO _ _ _ _ = _); rfl) | (focus (with_reducible show getElem? _ _ = _); rfl) | (focus (with_reducible show some _ = some _); rfl) | (focus (with_reducible show fgK _ _ _ = _); first | with_reducible apply fg_nx | with_reducible apply fg_ct | with_reducible exact fg_bk | with_reducible exact fg_rt | exact fg_rt) | (focus (with_reducible show forGo _ _ _ _ = _); first | with_reducible exact f_nil | with_reducible apply f_cons) | (focus (with_reducible show _ ≤ sizeLine); first | exact sz_le rfl | exact sz_leO (by first | omega | (simp; done) | (simp; omega))) | (focus (with_reducible show _ < sizeLine); first | exact sz_lt rfl | exact sz_ltO (by first | omega | (simp; done) | (simp; omega))) | (focus (with_reducible show ixN _ _ = _); first | exact ix0 | rfl) | (focus (with_reducible show -(2 ^ 63) ≤ _ ∧ _ < 2 ^ 63); exact ⟨by omega, by omega⟩) | with_reducible apply r_cmp2z | (focus (with_reducible show List.length _ = _); rfl) | (focus (with_reducible show List.getLast? _ = _); rfl))
    · rfl
  | true =>
    match l, hl, hB, hL with
    | [], _, hB, _ => cases hB
    | c :: r, hl, hB, hL =>
      rw [hB] at hL
      have ha := allin_ok m (by omega) r (by simp at hl; omega) "abcdefghijklmnopqrstuvwxyz"
      have hR : ev B.G B.CL (evF B m) (.and (.op .isin [.op .idx [.var 0, .lit (.int 0)], .glob 4]) (.call 17 [.op (.slc true false) [.var 0, .lit (.int 1)], .glob 3])) false [some (.val (.str (mkS (c :: r))))] = some (.val (.bl (up c && r.all lw)), [some (.val (.str (mkS (c :: r))))]) :=
        and_sym (by repeat (first | (focus (with_reducible show getS _ _ = _); rfl) | (focus (with_reducible show ev _ _ _ _ false _ = _); first | with_reducible apply r_var | with_reducible exact r_lit | with_reducible apply r_op | with_reducible apply r_callE | with_reducible apply r_tup | with_reducible apply r_frz | with_reducible apply r_and | with_reducible apply r_or | with_reducible apply r_not | with_reducible apply (r_mop rfl) | with_reducible apply r_mopB | with_reducible apply r_lst | with_reducible apply r_mv | with_reducible apply r_sh | with_reducible apply r_glob | with_reducible apply r_cmp2 | with_reducible apply r_ite | with_reducible apply r_bw | with_reducible apply r_meth | with_reducible apply r_new | with_reducible apply r_pop | with_reducible apply r_popAt | with_reducible exact r_dct | with_reducible exact r_dctT | with_reducible apply r_dctOf) | (focus (with_reducible show ev _ _ _ _ true _ = _); first | with_reducible apply t_op | with_reducible apply t_call | with_reducible apply r_and | with_reducible apply r_or | with_reducible apply r_not | with_reducible apply t_var | with_reducible apply t_bw | with_reducible apply r_cmp2 | with_reducible apply t_mop | with_reducible apply t_meth | with_reducible apply t_lit) | (focus (with_reducible show evO _ _ _ _ _ = _); first | with_reducible apply (o_cons rfl) | with_reducible exact o_nil | with_reducible apply o_bw | rfl) | (focus (with_reducible show prim _ _ = _); first | (focus (with_reducible show prim .mod _ = _); exact p_mod (by omega)) | (focus (with_reducible show prim .fdiv _ = _); exact p_fdiv ⟨by omega, by omega⟩) | (focus (with_reducible show prim .mul _ = _); first | exact p_mul2 ⟨by omega, by omega⟩ | exact p_mul1 ⟨by omega, by omega⟩) | exact p_ixs hl atI0 | exact p_in1' | rfl) | (focus (with_reducible show O.frz _ = _); rfl) | (focus (with_reducible show truth _ = _); rfl) | (focus (with_reducible show evV _ _ _ _ _ = _); first | with_reducible apply v_cons | with_reducible exact v_nil | rfl) | (focus (with_reducible show evS _ _ _ _ _ _ = _); first | with_reducible apply s_asg | with_reducible apply s_ite | with_reducible apply s_ret | with_reducible apply s_for | with_reducible apply s_app | with_reducible apply s_setI | with_reducible apply s_expr | with_reducible apply s_unp | with_reducible apply s_aug | with_reducible apply s_while | with_reducible apply s_ext | with_reducible apply s_rev | with_reducible exact s_retN | with_reducible exact s_pass | with_reducible exact s_brk | with_reducible exact s_cont) | (focus (with_reducible show evSs _ _ _ _ _ _ = _); first | with_reducible apply ss_cons | with_reducible exact ss_nil | rfl) | (focus (with_reducible show flK _ _ _ = _); first | with_reducible apply fl_nx | with_reducible exact fl_rt | with_reducible exact fl_bk | with_reducible exact fl_ct | exact fl_rt) | (focus (with_reducible show evA _ _ _ _ _ = _); first | with_reducible apply (a_cons rfl) | with_reducible apply a_rf | with_reducible exact a_nil | with_reducible apply a_fr | rfl) | (focus (with_reducible show takeA _ _ _ = _); rfl) | (focus (with_reducible show giveA _ _ _ = _); rfl) | ((with_reducible apply cond_t); focus (first | rfl | assumption | (simp [*]; done))) | ((with_reducible apply cond_f); focus (first | rfl | assumption | (simp [*]; done))) | (focus (with_reducible show rcv _ _ = _); rfl) | (focus (with_reducible show iterD _ _ = _); rfl) | (focus (with_reducible show plainS _ _ = _); rfl) | (focus (with_reducible show bindT _ _ _ = _); rfl) | (focus (with_reducible show setO _ _ _ _ = _); rfl) | (focus (with_reducible show getElem? _ _ = _); rfl) | (focus (with_reducible show some _ = some _); rfl) | (focus (with_reducible show fgK _ _ _ = _); first | with_reducible apply fg_nx | with_reducible apply fg_ct | with_reducible exact fg_bk | with_reducible exact fg_rt | exact fg_rt) | (focus (with_reducible show forGo _ _ _ _ = _); first | with_reducible exact f_nil | with_reducible apply f_cons) | (focus (with_reducible show _ ≤ sizeLine); first | exact sz_le rfl | exact sz_leO (by first | omega | (simp; done) | (simp; omega))) | (focus (with_reducible show _ < sizeLine); first | exact sz_lt rfl | exact sz_ltO (by first | omega | (simp; done) | (simp; omega))) | (focus (with_reducible show ixN _ _ = _); first | exact ix0 | rfl) | (focus (with_reducible show -(2 ^ 63) ≤ _ ∧ _ < 2 ^ 63); exact ⟨by omega, by omega⟩) | with_reducible apply r_cmp2z | (focus (with_reducible show List.length _ = _); rfl) | (focus (with_reducible show List.getLast? _ = _); rfl))) (by repeat (first | (focus (with_reducible show getS _ _ = _); rfl) | (focus (with_reducible show ev _ _ _ _ false _ = _); first | with_reducible apply r_var | with_reducible exact r_lit | with_reducible apply r_op | with_reducible apply r_callE | with_reducible apply r_tup | with_reducible apply r_frz | with_reducible apply r_and | with_reducible apply r_or | with_reducible apply r_not | with_reducible apply (r_mop rfl) | with_reducible apply r_mopB | with_reducible apply r_lst | with_reducible apply r_mv | with_reducible apply r_sh | with_reducible apply r_glob | with_reducible apply r_cmp2 | with_reducible apply r_ite | with_reducible apply r_bw | with_reducible apply r_meth | with_reducible apply r_new | with_reducible apply r_pop | with_reducible apply r_popAt | with_reducible exact r_dct | with_reducible exact r_dctT | with_reducible apply r_dctOf) | (focus (with_reducible show ev _ _ _ _ true _ = _); first | with_reducible apply t_op | with_reducible apply t_call | with_reducible apply r_and | with_reducible apply r_or | with_reducible apply r_not | with_reducible apply t_var | with_reducible apply t_bw | with_reducible apply r_cmp2 | with_reducible apply t_mop | with_reducible apply t_meth | with_reducible apply t_lit) | (focus (with_reducible show evO _ _ _ _ _ = _); first | with_reducible apply (o_cons rfl) | with_reducible exact o_nil | with_reducible apply o_bw | rfl) | (focus (with_reducible show prim _ _ = _); first | (focus (with_reducible show prim .mod _ = _); exact p_mod (by omega)) | (focus (with_reducible show prim .fdiv _ = _); exact p_fdiv ⟨by omega, by omega⟩) | (focus (with_reducible show prim .mul _ = _); first | exact p_mul2 ⟨by omega, by omega⟩ | exact p_mul1 ⟨by omega, by omega⟩) | exact (by have := p_cutl (l := c :: r) (j := 1) hl; rw [cut1] at this; exact this) | rfl) | (focus (with_reducible show O.frz _ = _); rfl) | (focus (with_reducible show truth _ = _); rfl) | (focus (with_reducible show evV _ _ _ _ _ = _); first | with_reducible apply v_cons | with_reducible exact v_nil | rfl) | (focus (with_reducible show evS _ _ _ _ _ _ = _); first | with_reducible apply s_asg | with_reducible apply s_ite | with_reducible apply s_ret | with_reducible apply s_for | with_reducible apply s_app | with_reducible apply s_setI | with_reducible apply s_expr | with_reducible apply s_unp | with_reducible apply s_aug | with_reducible apply s_while | with_reducible apply s_ext | with_reducible apply s_rev | with_reducible exact s_retN | with_reducible exact s_pass | with_reducible exact s_brk | with_reducible exact s_cont) | (focus (with_reducible show evSs _ _ _ _ _ _ = _); first | with_reducible apply ss_cons | with_reducible exact ss_nil | rfl) | (focus (with_reducible show flK _ _ _ = _); first | with_reducible apply fl_nx | with_reducible exact fl_rt | with_reducible exact fl_bk | with_reducible exact fl_ct | exact fl_rt) | (focus (with_reducible show evA _ _ _ _ _ = _); first | with_reducible apply (a_cons rfl) | with_reducible apply a_rf | with_reducible exact a_nil | with_reducible apply a_fr | rfl) | (focus (with_reducible show evF _ _ _ _ = _); first | (focus (with_reducible show evF _ _ 17 _ = _);  exact ha)) | (focus (with_reducible show takeA _ _ _ = _); rfl) | (focus (with_reducible show giveA _ _ _ = _); rfl) | ((with_reducible apply cond_t); focus (first | rfl | assumption | (simp [*]; done))) | ((with_reducible apply cond_f); focus (first | rfl | assumption | (simp [*]; done))) | (focus (with_reducible show rcv _ _ = _); rfl) | (focus (with_reducible show iterD _ _ = _); rfl) | (focus (with_reducible show plainS _ _ = _); rfl) | (focus (with_reducible show bindT _ _ _ = _); rfl) | (focus (with_reducible show setO _ _ _ _ = _); rfl) | (focus (with_reducible show getElem? _ _ = _); rfl) | (focus (with_reducible show some _ = some _); rfl) | (focus (with_reducible show fgK _ _ _ = _); first | with_reducible apply fg_nx | with_reducible apply fg_ct | with_reducible exact fg_bk | with_reducible exact fg_rt | exact fg_rt) | (focus (with_reducible show forGo _ _ _ _ = _); first | with_reducible exact f_nil | with_reducible apply f_cons) | (focus (with_reducible show _ ≤ sizeLine); first | exact sz_le rfl | exact sz_leO (by first | omega | (simp; done) | (simp; omega))) | (focus (with_reducible show _ < sizeLine); first | exact sz_lt rfl | exact sz_ltO (by first | omega | (simp; done) | (simp; omega))) | (focus (with_reducible show ixN _ _ = _); first | exact ix0 | rfl) | (focus (with_reducible show -(2 ^ 63) ≤ _ ∧ _ < 2 ^ 63); exact ⟨by omega, by omega⟩) | with_reducible apply r_cmp2z | (focus (with_reducible show List.length _ = _); rfl) | (focus (with_reducible show List.getLast? _ = _); rfl))) rfl
      have hn : markB (c :: r) = (up c && r.all lw) := by simp [markB, hB]
      rw [hn]
      apply r_fn (F := ⟨1, 1, none, b13⟩) rfl rfl
      · unfold b13
        dsimp only
        repeat (first | exact hL | exact hR | (focus (with_reducible show getS _ _ = _); rfl) | (focus (with_reducible show ev _ _ _ _ false _ = _); first | with_reducible apply r_var | with_reducible exact r_lit | with_reducible apply r_op | with_reducible apply r_callE | with_reducible apply r_tup | with_reducible apply r_frz | with_reducible apply r_and | with_reducible apply r_or | with_reducible apply r_not | with_reducible apply (r_mop rfl) | with_reducible apply r_mopB | with_reducible apply r_lst | with_reducible apply r_mv | with_reducible apply r_sh | with_reducible apply r_glob | with_reducible apply r_cmp2 | with_reducible apply r_ite | with_reducible apply r_bw | with_reducible apply r_meth | with_reducible apply r_new | with_reducible apply r_pop | with_reducible apply r_popAt | with_reducible exact r_dct | with_reducible exact r_dctT | with_reducible apply r_dctOf) | (focus (with_reducible show ev _ _ _ _ true _ = _); first | with_reducible apply t_op | with_reducible apply t_call | with_reducible apply r_and | with_reducible apply r_or | with_reducible apply r_not | with_reducible apply t_var | with_reducible apply t_bw | with_reducible apply r_cmp2 | with_reducible apply t_mop | with_reducible apply t_meth | with_reducible apply t_lit) | (focus (with_reducible show evO _ _ _ _ _ = _); first | with_reducible apply (o_cons rfl) | with_reducible exact o_nil | with_reducible apply o_bw | rfl) | (focus (with_reducible show prim _ _ = _); first | (focus (with_reducible show prim .mod _ = _); exact p_mod (by omega)) | (focus (with_reducible show prim .fdiv _ = _); exact p_fdiv ⟨by omega, by omega⟩) | (focus (with_reducible show prim .mul _ = _); first | exact p_mul2 ⟨by omega, by omega⟩ | exact p_mul1 ⟨by omega, by omega⟩) | rfl) | (focus (with_reducible show O.frz _ = _); rfl) | (focus (with_reducible show truth _ = _); rfl) | (focus (with_reducible show evV _ _ _ _ _ = _); first | with_reducible apply v_cons | with_reducible exact v_nil | rfl) | (focus (with_reducible show evS _ _ _ _ _ _ = _); first | with_reducible apply s_asg | with_reducible apply s_ite | with_reducible apply s_ret | with_reducible apply s_for | with_reducible apply s_app | with_reducible apply s_setI | with_reducible apply s_expr | with_reducible apply s_unp | with_reducible apply s_aug | with_reducible apply s_while | with_reducible apply s_ext | with_reducible apply s_rev | with_reducible exact s_retN | with_reducible exact s_pass | with_reducible exact s_brk | with_reducible exact s_cont) | (focus (with_reducible show evSs _ _ _ _ _ _ = _); first | with_reducible apply ss_cons | with_reducible exact ss_nil | rfl) | (focus (with_reducible show flK _ _ _ = _); first | with_reducible apply fl_nx | with_reducible exact fl_rt | with_reducible exact fl_bk | with_reducible exact fl_ct | exact fl_rt) | (focus (with_reducible show evA _ _ _ _ _ = _); first | with_reducible apply (a_cons rfl) | with_reducible apply a_rf | with_reducible exact a_nil | with_reducible apply a_fr | rfl) | (focus (with_reducible show takeA _ _ _ = _); rfl) | (focus (with_reducible show giveA _ _ _ = _); rfl) | ((with_reducible apply cond_t); focus (first | rfl | assumption | (simp [*]; done))) | ((with_reducible apply cond_f); focus (first | rfl | assumption | (simp [*]; done))) | (focus (with_reducible show rcv _ _ = _); rfl) | (focus (with_reducible show iterD _ _ = _); rfl) | (focus (with_reducible show plainS _ _ = _); rfl) | (focus (with_reducible show bindT _ _ _ = _); rfl) | (focus (with_reducible show setO _ _ _ _ = _); rfl) | (focus (with_reducible show getElem? _ _ = _); rfl) | (focus (with_reducible show some _ = some _); rfl) | (focus (with_reducible show fgK _ _ _ = _); first | with_reducible apply fg_nx | with_reducible apply fg_ct | with_reducible exact fg_bk | with_reducible exact fg_rt | exact fg_rt) | (focus (with_reducible show forGo _ _ _ _ = _); first | with_reducible exact f_nil | with_reducible apply f_cons) | (focus (with_reducible show _ ≤ sizeLine); first | exact sz_le rfl | exact sz_leO (by first | omega | (simp; done) | (simp; omega))) | (focus (with_reducible show _ < sizeLine); first | exact sz_lt rfl | exact sz_ltO (by first | omega | (simp; done) | (simp; omega))) | (focus (with_reducible show ixN _ _ = _); first | exact ix0 | rfl) | (focus (with_reducible show -(2 ^ 63) ≤ _ ∧ _ < 2 ^ 63); exact ⟨by omega, by omega⟩) | with_reducible apply r_cmp2z | (focus (with_reducible show List.length _ = _); rfl) | (focus (with_reducible show List.getLast? _ = _); rfl))
      · rfl
theorem open_ok (m : Nat) (hm : 2 ≤ m) (l : List Nat) (hl : l.length ≤ 1000) : evF B m 14 [.val (.str (mkS l))] = some (.val (.bl (openB l)), [some (.val (.str (mkS l)))]) := by
  obtain ⟨m, rfl⟩ : ∃ k, m = k + 1 := ⟨m - 1, by omega⟩
  have hL : ev B.G B.CL (evF B m) (.cmp2 .le .le (.lit (.int 1)) (.op .len [.var 0]) (.op .add [.lit (.int 1), .glob 5])) true [some (.val (.str (mkS l)))] = some (.val (.bl (lenB 5 l)), [some (.val (.str (mkS l)))]) :=
    cmp_sym (o0 := .val (.int 1)) (o1 := .val (.int l.length)) (o2 := .val (.int 5)) r_lit (by repeat (first | (focus (with_reducible show getS _ _ = _); rfl) | (focus (with_reducible show ev _ _ _ _ false _ = _); first | with_reducible apply r_var | with_reducible exact r_lit | with_reducible apply r_op | with_reducible apply r_callE | with_reducible apply r_tup | with_reducible apply r_frz | with_reducible apply r_and | with_reducible apply r_or | with_reducible apply r_not | with_reducible apply (r_mop rfl) | with_reducible apply r_mopB | with_reducible apply r_lst | with_reducible apply r_mv | with_reducible apply r_sh | with_reducible apply r_glob | with_reducible apply r_cmp2 | with_reducible apply r_ite | with_reducible apply r_bw | with_reducible apply r_meth | with_reducible apply r_new | with_reducible apply r_pop | with_reducible apply r_popAt | with_reducible exact r_dct | with_reducible exact r_dctT | with_reducible apply r_dctOf) | (focus (with_reducible show ev _ _ _ _ true _ = _); first | with_reducible apply t_op | with_reducible apply t_call | with_reducible apply r_and | with_reducible apply r_or | with_reducible apply r_not | with_reducible apply t_var | with_reducible apply t_bw | with_reducible apply r_cmp2 | with_reducible apply t_mop | with_reducible apply t_meth | with_reducible apply t_lit) | (focus (with_reducible show evO _ _ _ _ _ = _); first | with_reducible apply (o_cons rfl) | with_reducible exact o_nil | with_reducible apply o_bw | rfl) | (focus (with_reducible show prim _ _ = _); first | (focus (with_reducible show prim .mod _ = _); exact p_mod (by omega)) | (focus (with_reducible show prim .fdiv _ = _); exact p_fdiv ⟨by omega, by omega⟩) | (focus (with_reducible show prim .mul _ = _); first | exact p_mul2 ⟨by omega, by omega⟩ | exact p_mul1 ⟨by omega, by omega⟩) | exact p_lenS hl | rfl) | (focus (with_reducible show O.frz _ = _); rfl) | (focus (with_reducible show truth _ = _); rfl) | (focus (with_reducible show evV _ _ _ _ _ = _); first | with_reducible apply v_cons | with_reducible exact v_nil | rfl) | (focus (with_reducible show evS _ _ _ _ _ _ = _); first | with_reducible apply s_asg | with_reducible apply s_ite | with_reducible apply s_ret | with_reducible apply s_for | with_reducible apply s_app | with_reducible apply s_setI | with_reducible apply s_expr | with_reducible apply s_unp | with_reducible apply s_aug | with_reducible apply s_while | with_reducible apply s_ext | with_reducible apply s_rev | with_reducible exact s_retN | with_reducible exact s_pass | with_reducible exact s_brk | with_reducible exact s_cont) | (focus (with_reducible show evSs _ _ _ _ _ _ = _); first | with_reducible apply ss_cons | with_reducible exact ss_nil | rfl) | (focus (with_reducible show flK _ _ _ = _); first | with_reducible apply fl_nx | with_reducible exact fl_rt | with_reducible exact fl_bk | with_reducible exact fl_ct | exact fl_rt) | (focus (with_reducible show evA _ _ _ _ _ = _); first | with_reducible apply (a_cons rfl) | with_reducible apply a_rf | with_reducible exact a_nil | with_reducible apply a_fr | rfl) | (focus (with_reducible show takeA _ _ _ = _); rfl) | (focus (with_reducible show giveA _ _ _ = _); rfl) | ((with_reducible apply cond_t); focus (first | rfl | assumption | (simp [*]; done))) | ((with_reducible apply cond_f); focus (first | rfl | assumption | (simp [*]; done))) | (focus (with_reducible show rcv _ _ = _); rfl) | (focus (with_reducible show iterD _ _ = _); rfl) | (focus (with_reducible show plainS _ _ = _); rfl) | (focus (with_reducible show bindT _ _ _ = _); rfl) | (focus (with_reducible show setO _ _ _ _ = _); rfl) | (focus (with_reducible show getElem? _ _ = _); rfl) | (focus (with_reducible show some _ = some _); rfl) | (focus (with_reducible show fgK _ _ _ = _); first | with_reducible apply fg_nx | with_reducible apply fg_ct | with_reducible exact fg_bk | with_reducible exact fg_rt | exact fg_rt) | (focus (with_reducible show forGo _ _ _ _ = _); first | with_reducible exact f_nil | with_reducible apply f_cons) | (focus (with_reducible show _ ≤ sizeLine); first | exact sz_le rfl | exact sz_leO (by first | omega | (simp; done) | (simp; omega))) | (focus (with_reducible show _ < sizeLine); first | exact sz_lt rfl | exact sz_ltO (by first | omega | (simp; done) | (simp; omega))) | (focus (with_reducible show ixN _ _ = _); first | exact ix0 | rfl) | (focus (with_reducible show -(2 ^ 63) ≤ _ ∧ _ < 2 ^ 63); exact ⟨by omega, by omega⟩) | with_reducible apply r_cmp2z | (focus (with_reducible show List.length _ = _); rfl) | (focus (with_reducible show List.getLast? _ = _); rfl))) (by repeat (first | (focus (with_reducible show getS _ _ = _); rfl) | (focus (with_reducible show ev _ _ _ _ false _ = _); first | with_reducible apply r_var | with_reducible exact r_lit | with_reducible apply r_op | with_reducible apply r_callE | with_reducible apply r_tup | with_reducible apply r_frz | with_reducible apply r_and | with_reducible apply r_or | with_reducible apply r_not | with_reducible apply (r_mop rfl) | with_reducible apply r_mopB | with_reducible apply r_lst | with_reducible apply r_mv | with_reducible apply r_sh | with_reducible apply r_glob | with_reducible apply r_cmp2 | with_reducible apply r_ite | with_reducible apply r_bw | with_reducible apply r_meth | with_reducible apply r_new | with_reducible apply r_pop | with_reducible apply r_popAt | with_reducible exact r_dct | with_reducible exact r_dctT | with_reducible apply r_dctOf) | (focus (with_reducible show ev _ _ _ _ true _ = _); first | with_reducible apply t_op | with_reducible apply t_call | with_reducible apply r_and | with_reducible apply r_or | with_reducible apply r_not | with_reducible apply t_var | with_reducible apply t_bw | with_reducible apply r_cmp2 | with_reducible apply t_mop | with_reducible apply t_meth | with_reducible apply t_lit) | (focus (with_reducible show evO _ _ _ _ _ = _); first | with_reducible apply (o_cons rfl) | with_reducible exact o_nil | with_reducible apply o_bw | rfl) | (focus (with_reducible show prim _ _ = _); first | (focus (with_reducible show prim .mod _ = _); exact p_mod (by omega)) | (focus (with_reducible show prim .fdiv _ = _); exact p_fdiv ⟨by omega, by omega⟩) | (focus (with_reducible show prim .mul _ = _); first | exact p_mul2 ⟨by omega, by omega⟩ | exact p_mul1 ⟨by omega, by omega⟩) | rfl) | (focus (with_reducible show O.frz _ = _); rfl) | (focus (with_reducible show truth _ = _); rfl) | (focus (with_reducible show evV _ _ _ _ _ = _); first | with_reducible apply v_cons | with_reducible exact v_nil | rfl) | (focus (with_reducible show evS _ _ _ _ _ _ = _); first | with_reducible apply s_asg | with_reducible apply s_ite | with_reducible apply s_ret | with_reducible apply s_for | with_reducible apply s_app | with_reducible apply s_setI | with_reducible apply s_expr | with_reducible apply s_unp | with_reducible apply s_aug | with_reducible apply s_while | with_reducible apply s_ext | with_reducible apply s_rev | with_reducible exact s_retN | with_reducible exact s_pass | with_reducible exact s_brk | with_reducible exact s_cont) | (focus (with_reducible show evSs _ _ _ _ _ _ = _); first | with_reducible apply ss_cons | with_reducible exact ss_nil | rfl) | (focus (with_reducible show flK _ _ _ = _); first | with_reducible apply fl_nx | with_reducible exact fl_rt | with_reducible exact fl_bk | with_reducible exact fl_ct | exact fl_rt) | (focus (with_reducible show evA _ _ _ _ _ = _); first | with_reducible apply (a_cons rfl) | with_reducible apply a_rf | with_reducible exact a_nil | with_reducible apply a_fr | rfl) | (focus (with_reducible show takeA _ _ _ = _); rfl) | (focus (with_reducible show giveA _ _ _ = _); rfl) | ((with_reducible apply cond_t); focus (first | rfl | assumption | (simp [*]; done))) | ((with_reducible apply cond_f); focus (first | rfl | assumption | (simp [*]; done))) | (focus (with_reducible show rcv _ _ = _); rfl) | (focus (with_reducible show iterD _ _ = _); rfl) | (focus (with_reducible show plainS _ _ = _); rfl) | (focus (with_reducible show bindT _ _ _ = _); rfl) | (focus (with_reducible show setO _ _ _ _ = _); rfl) | (focus (with_reducible show getElem? _ _ = _); rfl) | (focus (with_reducible show some _ = some _); rfl) | (focus (with_reducible show fgK _ _ _ = _); first | with_reducible apply fg_nx | with_reducible apply fg_ct | with_reducible exact fg_bk | with_reducible exact fg_rt | exact fg_rt) | (focus (with_reducible show forGo _ _ _ _ = _); first | with_reducible exact f_nil | with_reducible apply f_cons) | (focus (with_reducible show _ ≤ sizeLine); first | exact sz_le rfl | exact sz_leO (by first | omega | (simp; done) | (simp; omega))) | (focus (with_reducible show _ < sizeLine); first | exact sz_lt rfl | exact sz_ltO (by first | omega | (simp; done) | (simp; omega))) | (focus (with_reducible show ixN _ _ = _); first | exact ix0 | rfl) | (focus (with_reducible show -(2 ^ 63) ≤ _ ∧ _ < 2 ^ 63); exact ⟨by omega, by omega⟩) | with_reducible apply r_cmp2z | (focus (with_reducible show List.length _ = _); rfl) | (focus (with_reducible show List.getLast? _ = _); rfl))) rfl rfl
  cases hB : lenB 5 l with
  | false =>
    rw [hB] at hL
    have hn : openB l = false := by cases l <;> simp [openB, hB]
    rw [hn]
    apply r_fn (F := ⟨1, 1, none, b14⟩) rfl rfl
    · unfold b14
      dsimp only
      repeat (first | exact hL | (focus (with_reducible show getS _ _ = _); rfl) | (focus (with_reducible show ev _ _ _ _ false _ = _); first | with_reducible apply r_var | with_reducible exact r_lit | with_reducible apply r_op | with_reducible apply r_callE | with_reducible apply r_tup | with_reducible apply r_frz | with_reducible apply r_and | with_reducible apply r_or | with_reducible apply r_not | with_reducible apply (r_mop rfl) | with_reducible apply r_mopB | with_reducible apply r_lst | with_reducible apply r_mv | with_reducible apply r_sh | with_reducible apply r_glob | with_reducible apply r_cmp2 | with_reducible apply r_ite | with_reducible apply r_bw | with_reducible apply r_meth | with_reducible apply r_new | with_reducible apply r_pop | with_reducible apply r_popAt | with_reducible exact r_dct | with_reducible exact r_dctT | with_reducible apply r_dctOf) | (focus (with_reducible show ev _ _ _ _ true _ = _); first | with_reducible apply t_op | with_reducible apply t_call | with_reducible apply r_and | with_reducible apply r_or | with_reducible apply r_not | with_reducible apply t_var | with_reducible apply t_bw | with_reducible apply r_cmp2 | with_reducible apply t_mop | with_reducible apply t_meth | with_reducible apply t_lit) | (focus (with_reducible show evO _ _ _ _ _ = _); first | with_reducible apply (o_cons rfl) | with_reducible exact o_nil | with_reducible apply o_bw | rfl) | (focus (with_reducible show prim _ _ = _); first | (focus (with_reducible show prim .mod _ = _); exact p_mod (by omega)) | (focus (with_reducible show prim .fdiv _ = _); exact p_fdiv ⟨by omega, by omega⟩) | (focus (with_reducible show prim .mul _ = _); first | exact p_mul2 ⟨by omega, by omega⟩ | exact p_mul1 ⟨by omega, by omega⟩) | rfl) | (focus (with_reducible show O.frz _ = _); rfl) | (focus (with_reducible show truth _ = _); rfl) | (focus (with_reducible show evV _ _ _ _ _ = _); first | with_reducible apply v_cons | with_reducible exact v_nil | rfl) | (focus (with_reducible show evS _ _ _ _ _ _ = _); first | with_reducible apply s_asg | with_reducible apply s_ite | with_reducible apply s_ret | with_reducible apply s_for | with_reducible apply s_app | with_reducible apply s_setI | with_reducible apply s_expr | with_reducible apply s_unp | with_reducible apply s_aug | with_reducible apply s_while | with_reducible apply s_ext | with_reducible apply s_rev | with_reducible exact s_retN | with_reducible exact s_pass | with_reducible exact s_brk | with_reducible exact s_cont) | (focus (with_reducible show evSs _ _ _ _ _ _ = _); first | with_reducible apply ss_cons | with_reducible exact ss_nil | rfl) | (focus (with_reducible show flK _ _ _ = _); first | with_reducible apply fl_nx | with_reducible exact fl_rt | with_reducible exact fl_bk | with_reducible exact fl_ct | exact fl_rt) | (focus (with_reducible show evA _ _ _ _ _ = _); first | with_reducible apply (a_cons rfl) | with_reducible apply a_rf | with_reducible exact a_nil | with_reducible apply a_fr | rfl) | (focus (with_reducible show takeA _ _ _ = _); rfl) | (focus (with_reducible show giveA _ _ _ = _); rfl) | ((with_reducible apply cond_t); focus (first | rfl | assumption | (simp [*]; done))) | ((with_reducible apply cond_f); focus (first | rfl | assumption | (simp [*]; done))) | (focus (with_reducible show rcv _ _ = _); rfl) | (focus (with_reducible show iterD _ _ = _); rfl) | (focus (with_reducible show plainS _ _ = _); rfl) | (focus (with_reducible show bindT _ _ _ = _); rfl) | (focus (with_reducible show setO _ _ _ _ = _); rfl) | (focus (with_reducible show getElem? _ _ = _); rfl) | (focus (with_reducible show some _ = some _); rfl) | (focus (with_reducible show fgK _ _ _ = _); first | with_reducible apply fg_nx | with_reducible apply fg_ct | with_reducible exact fg_bk | with_reducible exact fg_rt | exact fg_rt) | (focus (with_reducible show forGo _ _ _ _ = _); first | with_reducible exact f_nil | with_reducible apply f_cons) | (focus (with_reducible show _ ≤ sizeLine); first | exact sz_le rfl | exact sz_leO (by first | omega | (simp; done) | (simp; omega))) | (focus (with_reducible show _ < sizeLine); first | exact sz_lt rfl | exact sz_ltO (by first | omega | (simp; done) | (simp; omega))) | (focus (with_reducible show ixN _ _ = _); first | exact ix0 | rfl) | (focus (with_reducible show -(2 ^ 63) ≤ _ ∧ _ < 2 ^ 63); exact ⟨by omega, by omega⟩) | with_reducible apply r_cmp2z | (focus (with_reducible show List.length _ = _); rfl) | (focus (with_reducible show List.getLast? _ = _); rfl))
    · rfl
  | true =>
    match l, hl, hB, hL with
    | [], _, hB, _ => cases hB
    | c :: r, hl, hB, hL =>
      rw [hB] at hL
      have ha := allin_ok m (by omega) r (by simp at hl; omega) "0123456789"
      have hR : ev B.G B.CL (evF B m) (.and (.op .isin [.op .idx [.var 0, .lit (.int 0)], .glob 3]) (.call 17 [.op (.slc true false) [.var 0, .lit (.int 1)], .glob 6])) false [some (.val (.str (mkS (c :: r))))] = some (.val (.bl (lw c && r.all fg)), [some (.val (.str (mkS (c :: r))))]) :=
        and_sym (by repeat (first | (focus (with_reducible show getS _ _ = _); rfl) | (focus (with_reducible show ev _ _ _ _ false _ = _); first | with_reducible apply r_var | with_reducible exact r_lit | with_reducible apply r_op | with_reducible apply r_callE | with_reducible apply r_tup | with_reducible apply r_frz | with_reducible apply r_and | with_reducible apply r_or | with_reducible apply r_not | with_reducible apply (r_mop rfl) | with_reducible apply r_mopB | with_reducible apply r_lst | with_reducible apply r_mv | with_reducible apply r_sh | with_reducible apply r_glob | with_reducible apply r_cmp2 | with_reducible apply r_ite | with_reducible apply r_bw | with_reducible apply r_meth | with_reducible apply r_new | with_reducible apply r_pop | with_reducible apply r_popAt | with_reducible exact r_dct | with_reducible exact r_dctT | with_reducible apply r_dctOf) | (focus (with_reducible show ev _ _ _ _ true _ = _); first | with_reducible apply t_op | with_reducible apply t_call | with_reducible apply r_and | with_reducible apply r_or | with_reducible apply r_not | with_reducible apply t_var | with_reducible apply t_bw | with_reducible apply r_cmp2 | with_reducible apply t_mop | with_reducible apply t_meth | with_reducible apply t_lit) | (focus (with_reducible show evO _ _ _ _ _ = _); first | with_reducible apply (o_cons rfl) | with_reducible exact o_nil | with_reducible apply o_bw | rfl) | (focus (with_reducible show prim _ _ = _); first | (focus (with_reducible show prim .mod _ = _); exact p_mod (by omega)) | (focus (with_reducible show prim .fdiv _ = _); exact p_fdiv ⟨by omega, by omega⟩) | (focus (with_reducible show prim .mul _ = _); first | exact p_mul2 ⟨by omega, by omega⟩ | exact p_mul1 ⟨by omega, by omega⟩) | exact p_ixs hl atI0 | exact p_in1' | rfl) | (focus (with_reducible show O.frz _ = _); rfl) | (focus (with_reducible show truth _ = _); rfl) | (focus (with_reducible show evV _ _ _ _ _ = _); first | with_reducible apply v_cons | with_reducible exact v_nil | rfl) | (focus (with_reducible show evS _ _ _ _ _ _ = _); first | with_reducible apply s_asg | with_reducible apply s_ite | with_reducible apply s_ret | with_reducible apply s_for | with_reducible apply s_app | with_reducible apply s_setI | with_reducible apply s_expr | with_reducible apply s_unp | with_reducible apply s_aug | with_reducible apply s_while | with_reducible apply s_ext | with_reducible apply s_rev | with_reducible exact s_retN | with_reducible exact s_pass | with_reducible exact s_brk | with_reducible exact s_cont) | (focus (with_reducible show evSs _ _ _ _ _ _ = _); first | with_reducible apply ss_cons | with_reducible exact ss_nil | rfl) | (focus (with_reducible show flK _ _ _ = _); first | with_reducible apply fl_nx | with_reducible exact fl_rt | with_reducible exact fl_bk | with_reducible exact fl_ct | exact fl_rt) | (focus (with_reducible show evA _ _ _ _ _ = _); first | with_reducible apply (a_cons rfl) | with_reducible apply a_rf | with_reducible exact a_nil | with_reducible apply a_fr | rfl) | (focus (with_reducible show takeA _ _ _ = _); rfl) | (focus (with_reducible show giveA _ _ _ = _); rfl) | ((with_reducible apply cond_t); focus (first | rfl | assumption | (simp [*]; done))) | ((with_reducible apply cond_f); focus (first | rfl | assumption | (simp [*]; done))) | (focus (with_reducible show rcv _ _ = _); rfl) | (focus (with_reducible show iterD _ _ = _); rfl) | (focus (with_reducible show plainS _ _ = _); rfl) | (focus (with_reducible show bindT _ _ _ = _); rfl) | (focus (with_reducible show setO _ _ _ _ = _); rfl) | (focus (with_reducible show getElem? _ _ = _); rfl) | (focus (with_reducible show some _ = some _); rfl) | (focus (with_reducible show fgK _ _ _ = _); first | with_reducible apply fg_nx | with_reducible apply fg_ct | with_reducible exact fg_bk | with_reducible exact fg_rt | exact fg_rt) | (focus (with_reducible show forGo _ _ _ _ = _); first | with_reducible exact f_nil | with_reducible apply f_cons) | (focus (with_reducible show _ ≤ sizeLine); first | exact sz_le rfl | exact sz_leO (by first | omega | (simp; done) | (simp; omega))) | (focus (with_reducible show _ < sizeLine); first | exact sz_lt rfl | exact sz_ltO (by first | omega | (simp; done) | (simp; omega))) | (focus (with_reducible show ixN _ _ = _); first | exact ix0 | rfl) | (focus (with_reducible show -(2 ^ 63) ≤ _ ∧ _ < 2 ^ 63); exact ⟨by omega, by omega⟩) | with_reducible apply r_cmp2z | (focus (with_reducible show List.length _ = _); rfl) | (focus (with_reducible show List.getLast? _ = _); rfl))) (by repeat (first | (focus (with_reducible show getS _ _ = _); rfl) | (focus (with_reducible show ev _ _ _ _ false _ = _); first | with_reducible apply r_var | with_reducible exact r_lit | with_reducible apply r_op | with_reducible apply r_callE | with_reducible apply r_tup | with_reducible apply r_frz | with_reducible apply r_and | with_reducible apply r_or | with_reducible apply r_not | with_reducible apply (r_mop rfl) | with_reducible apply r_mopB | with_reducible apply r_lst | with_reducible apply r_mv | with_reducible apply r_sh | with_reducible apply r_glob | with_reducible apply r_cmp2 | with_reducible apply r_ite | with_reducible apply r_bw | with_reducible apply r_meth | with_reducible apply r_new | with_reducible apply r_pop | with_reducible apply r_popAt | with_reducible exact r_dct | with_reducible exact r_dctT | with_reducible apply r_dctOf) | (focus (with_reducible show ev _ _ _ _ true _ = _); first | with_reducible apply t_op | with_reducible apply t_call | with_reducible apply r_and | with_reducible apply r_or | with_reducible apply r_not | with_reducible apply t_var | with_reducible apply t_bw | with_reducible apply r_cmp2 | with_reducible apply t_mop | with_reducible apply t_meth | with_reducible apply t_lit) | (focus (with_reducible show evO _ _ _ _ _ = _); first | with_reducible apply (o_cons rfl) | with_reducible exact o_nil | with_reducible apply o_bw | rfl) | (focus (with_reducible show prim _ _ = _); first | (focus (with_reducible show prim .mod _ = _); exact p_mod (by omega)) | (focus (with_reducible show prim .fdiv _ = _); exact p_fdiv ⟨by omega, by omega⟩) | (focus (with_reducible show prim .mul _ = _); first | exact p_mul2 ⟨by omega, by omega⟩ | exact p_mul1 ⟨by omega, by omega⟩) | exact (by have := p_cutl (l := c :: r) (j := 1) hl; rw [cut1] at this; exact this) | rfl) | (focus (with_reducible show O.frz _ = _); rfl) | (focus (with_reducible show truth _ = _); rfl) | (focus (with_reducible show evV _ _ _ _ _ = _); first | with_reducible apply v_cons | with_reducible exact v_nil | rfl) | (focus (with_reducible show evS _ _ _ _ _ _ = _); first | with_reducible apply s_asg | with_reducible apply s_ite | with_reducible apply s_ret | with_reducible apply s_for | with_reducible apply s_app | with_reducible apply s_setI | with_reducible apply s_expr | with_reducible apply s_unp | with_reducible apply s_aug | with_reducible apply s_while | with_reducible apply s_ext | with_reducible apply s_rev | with_reducible exact s_retN | with_reducible exact s_pass | with_reducible exact s_brk | with_reducible exact s_cont) | (focus (with_reducible show evSs _ _ _ _ _ _ = _); first | with_reducible apply ss_cons | with_reducible exact ss_nil | rfl) | (focus (with_reducible show flK _ _ _ = _); first | with_reducible apply fl_nx | with_reducible exact fl_rt | with_reducible exact fl_bk | with_reducible exact fl_ct | exact fl_rt) | (focus (with_reducible show evA _ _ _ _ _ = _); first | with_reducible apply (a_cons rfl) | with_reducible apply a_rf | with_reducible exact a_nil | with_reducible apply a_fr | rfl) | (focus (with_reducible show evF _ _ _ _ = _); first | (focus (with_reducible show evF _ _ 17 _ = _);  exact ha)) | (focus (with_reducible show takeA _ _ _ = _); rfl) | (focus (with_reducible show giveA _ _ _ = _); rfl) | ((with_reducible apply cond_t); focus (first | rfl | assumption | (simp [*]; done))) | ((with_reducible apply cond_f); focus (first | rfl | assumption | (simp [*]; done))) | (focus (with_reducible show rcv _ _ = _); rfl) | (focus (with_reducible show iterD _ _ = _); rfl) | (focus (with_reducible show plainS _ _ = _); rfl) | (focus (with_reducible show bindT _ _ _ = _); rfl) | (focus (with_reducible show setO _ _ _ _ = _); rfl) | (focus (with_reducible show getElem? _ _ = _); rfl) | (focus (with_reducible show some _ = some _); rfl) | (focus (with_reducible show fgK _ _ _ = _); first | with_reducible apply fg_nx | with_reducible apply fg_ct | with_reducible exact fg_bk | with_reducible exact fg_rt | exact fg_rt) | (focus (with_reducible show forGo _ _ _ _ = _); first | with_reducible exact f_nil | with_reducible apply f_cons) | (focus (with_reducible show _ ≤ sizeLine); first | exact sz_le rfl | exact sz_leO (by first | omega | (simp; done) | (simp; omega))) | (focus (with_reducible show _ < sizeLine); first | exact sz_lt rfl | exact sz_ltO (by first | omega | (simp; done) | (simp; omega))) | (focus (with_reducible show ixN _ _ = _); first | exact ix0 | rfl) | (focus (with_reducible show -(2 ^ 63) ≤ _ ∧ _ < 2 ^ 63); exact ⟨by omega, by omega⟩) | with_reducible apply r_cmp2z | (focus (with_reducible show List.length _ = _); rfl) | (focus (with_reducible show List.getLast? _ = _); rfl))) rfl
      have hn : openB (c :: r) = (lw c && r.all fg) := by simp [openB, hB]
      rw [hn]
      apply r_fn (F := ⟨1, 1, none, b14⟩) rfl rfl
      · unfold b14
        dsimp only
        repeat (first | exact hL | exact hR | (focus (with_reducible show getS _ _ = _); rfl) | (focus (with_reducible show ev _ _ _ _ false _ = _); first | with_reducible apply r_var | with_reducible exact r_lit | with_reducible apply r_op | with_reducible apply r_callE | with_reducible apply r_tup | with_reducible apply r_frz | with_reducible apply r_and | with_reducible apply r_or | with_reducible apply r_not | with_reducible apply (r_mop rfl) | with_reducible apply r_mopB | with_reducible apply r_lst | with_reducible apply r_mv | with_reducible apply r_sh | with_reducible apply r_glob | with_reducible apply r_cmp2 | with_reducible apply r_ite | with_reducible apply r_bw | with_reducible apply r_meth | with_reducible apply r_new | with_reducible apply r_pop | with_reducible apply r_popAt | with_reducible exact r_dct | with_reducible exact r_dctT | with_reducible apply r_dctOf) | (focus (with_reducible show ev _ _ _ _ true _ = _); first | with_reducible apply t_op | with_reducible apply t_call | with_reducible apply r_and | with_reducible apply r_or | with_reducible apply r_not | with_reducible apply t_var | with_reducible apply t_bw | with_reducible apply r_cmp2 | with_reducible apply t_mop | with_reducible apply t_meth | with_reducible apply t_lit) | (focus (with_reducible show evO _ _ _ _ _ = _); first | with_reducible apply (o_cons rfl) | with_reducible exact o_nil | with_reducible apply o_bw | rfl) | (focus (with_reducible show prim _ _ = _); first | (focus (with_reducible show prim .mod _ = _); exact p_mod (by omega)) | (focus (with_reducible show prim .fdiv _ = _); exact p_fdiv ⟨by omega, by omega⟩) | (focus (with_reducible show prim .mul _ = _); first | exact p_mul2 ⟨by omega, by omega⟩ | exact p_mul1 ⟨by omega, by omega⟩) | rfl) | (focus (with_reducible show O.frz _ = _); rfl) | (focus (with_reducible show truth _ = _); rfl) | (focus (with_reducible show evV _ _ _ _ _ = _); first | with_reducible apply v_cons | with_reducible exact v_nil | rfl) | (focus (with_reducible show evS _ _ _ _ _ _ = _); first | with_reducible apply s_asg | with_reducible apply s_ite | with_reducible apply s_ret | with_reducible apply s_for | with_reducible apply s_app | with_reducible apply s_setI | with_reducible apply s_expr | with_reducible apply s_unp | with_reducible apply s_aug | with_reducible apply s_while | with_reducible apply s_ext | with_reducible apply s_rev | with_reducible exact s_retN | with_reducible exact s_pass | with_reducible exact s_brk | with_reducible exact s_cont) | (focus (with_reducible show evSs _ _ _ _ _ _ = _); first | with_reducible apply ss_cons | with_reducible exact ss_nil | rfl) | (focus (with_reducible show flK _ _ _ = _); first | with_reducible apply fl_nx | with_reducible exact fl_rt | with_reducible exact fl_bk | with_reducible exact fl_ct | exact fl_rt) | (focus (with_reducible show evA _ _ _ _ _ = _); first | with_reducible apply (a_cons rfl) | with_reducible apply a_rf | with_reducible exact a_nil | with_reducible apply a_fr | rfl) | (focus (with_reducible show takeA _ _ _ = _); rfl) | (focus (with_reducible show giveA _ _ _ = _); rfl) | ((with_reducible apply cond_t); focus (first | rfl | assumption | (simp [*]; done))) | ((with_reducible apply cond_f); focus (first | rfl | assumption | (simp [*]; done))) | (focus (with_reducible show rcv _ _ = _); rfl) | (focus (with_reducible show iterD _ _ = _); rfl) | (focus (with_reducible show plainS _ _ = _); rfl) | (focus (with_reducible show bindT _ _ _ = _); rfl) | (focus (with_reducible show setO _ _ _ _ = _); rfl) | (focus (with_reducible show getElem? _ _ = _); rfl) | (focus (with_reducible show some _ = some _); rfl) | (focus (with_reducible show fgK _ _ _ = _); first | with_reducible apply fg_nx | with_reducible apply fg_ct | with_reducible exact fg_bk | with_reducible exact fg_rt | exact fg_rt) | (focus (with_reducible show forGo _ _ _ _ = _); first | with_reducible exact f_nil | with_reducible apply f_cons) | (focus (with_reducible show _ ≤ sizeLine); first | exact sz_le rfl | exact sz_leO (by first | omega | (simp; done) | (simp; omega))) | (focus (with_reducible show _ < sizeLine); first | exact sz_lt rfl | exact sz_ltO (by first | omega | (simp; done) | (simp; omega))) | (focus (with_reducible show ixN _ _ = _); first | exact ix0 | rfl) | (focus (with_reducible show -(2 ^ 63) ≤ _ ∧ _ < 2 ^ 63); exact ⟨by omega, by omega⟩) | with_reducible apply r_cmp2z | (focus (with_reducible show List.length _ = _); rfl) | (focus (with_reducible show List.getLast? _ = _); rfl))
      · rfl
def tri (a b c : Bool) : EV.D := .lst [.bl a, .bl b, .bl c]
theorem told_by (m : Nat) {d : EV.D} {a b c : Bool} (h1 : evF B m 12 [.val d] = some (.val (.bl a), [some (.val d)])) (h2 : evF B m 13 [.val d] = some (.val (.bl b), [some (.val d)])) (h3 : evF B m 14 [.val d] = some (.val (.bl c), [some (.val d)])) :
    evF B (m + 1) 6 [.val d] = some (.val (tri a b c), [some (.val d)]) := by
  have hc := c_filter (step := cStep B.G B.CL (evF B m) (.one 2) [.not (.op (.isi [4]) [.var 2])] e6_0) (ρ := [some (.val d), some (.val (tri a b c)), none]) (fun _ => false) [.bl a, .bl b, .bl c] (by
    intro x hx
    have : ∃ y, x = .bl y := by simp at hx; rcases hx with rfl | rfl | rfl <;> exact ⟨_, rfl⟩
    obtain ⟨y, rfl⟩ := this
    refine cs_1 rfl (ρ2 := [some (.val d), some (.val (tri a b c)), some (.val (.bl y))]) (b := false) (not_sym (x := true) ?_) rfl
    repeat (first | (focus (with_reducible show getS _ _ = _); rfl) | (focus (with_reducible show ev _ _ _ _ false _ = _); first | with_reducible apply r_var | with_reducible exact r_lit | with_reducible apply r_op | with_reducible apply r_callE | with_reducible apply r_tup | with_reducible apply r_frz | with_reducible apply r_and | with_reducible apply r_or | with_reducible apply r_not | with_reducible apply (r_mop rfl) | with_reducible apply r_mopB | with_reducible apply r_lst | with_reducible apply r_mv | with_reducible apply r_sh | with_reducible apply r_glob | with_reducible apply r_cmp2 | with_reducible apply r_ite | with_reducible apply r_bw | with_reducible apply r_meth | with_reducible apply r_new | with_reducible apply r_pop | with_reducible apply r_popAt | with_reducible exact r_dct | with_reducible exact r_dctT | with_reducible apply r_dctOf) | (focus (with_reducible show ev _ _ _ _ true _ = _); first | with_reducible apply t_op | with_reducible apply t_call | with_reducible apply r_and | with_reducible apply r_or | with_reducible apply r_not | with_reducible apply t_var | with_reducible apply t_bw | with_reducible apply r_cmp2 | with_reducible apply t_mop | with_reducible apply t_meth | with_reducible apply t_lit) | (focus (with_reducible show evO _ _ _ _ _ = _); first | with_reducible apply (o_cons rfl) | with_reducible exact o_nil | with_reducible apply o_bw | rfl) | (focus (with_reducible show prim _ _ = _); first | (focus (with_reducible show prim .mod _ = _); exact p_mod (by omega)) | (focus (with_reducible show prim .fdiv _ = _); exact p_fdiv ⟨by omega, by omega⟩) | (focus (with_reducible show prim .mul _ = _); first | exact p_mul2 ⟨by omega, by omega⟩ | exact p_mul1 ⟨by omega, by omega⟩) | rfl) | (focus (with_reducible show O.frz _ = _); rfl) | (focus (with_reducible show truth _ = _); rfl) | (focus (with_reducible show evV _ _ _ _ _ = _); first | with_reducible apply v_cons | with_reducible exact v_nil | rfl) | (focus (with_reducible show evS _ _ _ _ _ _ = _); first | with_reducible apply s_asg | with_reducible apply s_ite | with_reducible apply s_ret | with_reducible apply s_for | with_reducible apply s_app | with_reducible apply s_setI | with_reducible apply s_expr | with_reducible apply s_unp | with_reducible apply s_aug | with_reducible apply s_while | with_reducible apply s_ext | with_reducible apply s_rev | with_reducible exact s_retN | with_reducible exact s_pass | with_reducible exact s_brk | with_reducible exact s_cont) | (focus (with_reducible show evSs _ _ _ _ _ _ = _); first | with_reducible apply ss_cons | with_reducible exact ss_nil | rfl) | (focus (with_reducible show flK _ _ _ = _); first | with_reducible apply fl_nx | with_reducible exact fl_rt | with_reducible exact fl_bk | with_reducible exact fl_ct | exact fl_rt) | (focus (with_reducible show evA _ _ _ _ _ = _); first | with_reducible apply (a_cons rfl) | with_reducible apply a_rf | with_reducible exact a_nil | with_reducible apply a_fr | rfl) | (focus (with_reducible show takeA _ _ _ = _); rfl) | (focus (with_reducible show giveA _ _ _ = _); rfl) | ((with_reducible apply cond_t); focus (first | rfl | assumption | (simp [*]; done))) | ((with_reducible apply cond_f); focus (first | rfl | assumption | (simp [*]; done))) | (focus (with_reducible show rcv _ _ = _); rfl) | (focus (with_reducible show iterD _ _ = _); rfl) | (focus (with_reducible show plainS _ _ = _); rfl) | (focus (with_reducible show bindT _ _ _ = _); rfl) | (focus (with_reducible show setO _ _ _ _ = _); rfl) | (focus (with_reducible show getElem? _ _ = _); rfl) | (focus (with_reducible show some _ = some _); rfl) | (focus (with_reducible show fgK _ _ _ = _); first | with_reducible apply fg_nx | with_reducible apply fg_ct | with_reducible exact fg_bk | with_reducible exact fg_rt | exact fg_rt) | (focus (with_reducible show forGo _ _ _ _ = _); first | with_reducible exact f_nil | with_reducible apply f_cons) | (focus (with_reducible show _ ≤ sizeLine); first | exact sz_le rfl | exact sz_leO (by first | omega | (simp; done) | (simp; omega))) | (focus (with_reducible show _ < sizeLine); first | exact sz_lt rfl | exact sz_ltO (by first | omega | (simp; done) | (simp; omega))) | (focus (with_reducible show ixN _ _ = _); first | exact ix0 | rfl) | (focus (with_reducible show -(2 ^ 63) ≤ _ ∧ _ < 2 ^ 63); exact ⟨by omega, by omega⟩) | with_reducible apply r_cmp2z | (focus (with_reducible show List.length _ = _); rfl) | (focus (with_reducible show List.getLast? _ = _); rfl)))
  rw [show List.filter (fun _ => false) [EV.D.bl a, .bl b, .bl c] = [] from rfl] at hc
  apply r_fn (F := ⟨1, 3, none, b6⟩) rfl rfl
  · unfold b6
    dsimp only
    repeat (first | (focus (with_reducible show getS _ _ = _); rfl) | (focus (with_reducible show ev _ _ _ _ false _ = _); first | with_reducible apply r_var | with_reducible exact r_lit | with_reducible apply r_op | with_reducible apply r_callE | with_reducible apply r_tup | with_reducible apply r_frz | with_reducible apply r_and | with_reducible apply r_or | with_reducible apply r_not | with_reducible apply (r_mop rfl) | with_reducible apply r_mopB | with_reducible apply r_lst | with_reducible apply r_mv | with_reducible apply r_sh | with_reducible apply r_glob | with_reducible apply r_cmp2 | with_reducible apply r_comp | with_reducible apply r_ite | with_reducible apply r_bw | with_reducible apply r_meth | with_reducible apply r_new | with_reducible apply r_pop | with_reducible apply r_popAt | with_reducible exact r_dct | with_reducible exact r_dctT | with_reducible apply r_dctOf) | (focus (with_reducible show ev _ _ _ _ true _ = _); first | with_reducible apply t_op | with_reducible apply t_call | with_reducible apply r_and | with_reducible apply r_or | with_reducible apply r_not | with_reducible apply t_var | with_reducible apply t_bw | with_reducible apply r_cmp2 | with_reducible apply t_mop | with_reducible apply t_meth | with_reducible apply t_lit | with_reducible apply r_comp) | (focus (with_reducible show evO _ _ _ _ _ = _); first | with_reducible apply (o_cons rfl) | with_reducible exact o_nil | with_reducible apply o_bw | rfl) | (focus (with_reducible show prim _ _ = _); first | (focus (with_reducible show prim .mod _ = _); exact p_mod (by omega)) | (focus (with_reducible show prim .fdiv _ = _); exact p_fdiv ⟨by omega, by omega⟩) | (focus (with_reducible show prim .mul _ = _); first | exact p_mul2 ⟨by omega, by omega⟩ | exact p_mul1 ⟨by omega, by omega⟩) | rfl) | (focus (with_reducible show O.frz _ = _); rfl) | (focus (with_reducible show truth _ = _); rfl) | (focus (with_reducible show evV _ _ _ _ _ = _); first | with_reducible apply v_cons | with_reducible exact v_nil | rfl) | (focus (with_reducible show evS _ _ _ _ _ _ = _); first | with_reducible apply s_asg | with_reducible apply s_ite | with_reducible apply s_ret | with_reducible apply s_for | with_reducible apply s_app | with_reducible apply s_setI | with_reducible apply s_expr | with_reducible apply s_unp | with_reducible apply s_aug | with_reducible apply s_while | with_reducible apply s_ext | with_reducible apply s_rev | with_reducible exact s_retN | with_reducible exact s_pass | with_reducible exact s_brk | with_reducible exact s_cont) | (focus (with_reducible show evSs _ _ _ _ _ _ = _); first | with_reducible apply ss_cons | with_reducible exact ss_nil | rfl) | (focus (with_reducible show flK _ _ _ = _); first | with_reducible apply fl_nx | with_reducible exact fl_rt | with_reducible exact fl_bk | with_reducible exact fl_ct | exact fl_rt) | (focus (with_reducible show evA _ _ _ _ _ = _); first | with_reducible apply (a_cons rfl) | with_reducible apply a_rf | with_reducible exact a_nil | with_reducible apply a_fr | rfl) | (focus (with_reducible show evF _ _ _ _ = _); first | (focus (with_reducible show evF _ _ 12 _ = _);  exact h1) | (focus (with_reducible show evF _ _ 13 _ = _);  exact h2) | (focus (with_reducible show evF _ _ 14 _ = _);  exact h3)) | (focus (with_reducible show takeA _ _ _ = _); rfl) | (focus (with_reducible show giveA _ _ _ = _); rfl) | ((with_reducible apply cond_t); focus (first | rfl | assumption | (simp [*]; done))) | ((with_reducible apply cond_f); focus (first | rfl | assumption | (simp [*]; done))) | (focus (with_reducible show compGo _ _ _ = _); exact hc) | (focus (with_reducible show _ ≤ sizeLine); exact sz_leO (by simp)) | (focus (with_reducible show rcv _ _ = _); rfl) | (focus (with_reducible show iterD _ _ = _); rfl) | (focus (with_reducible show plainS _ _ = _); rfl) | (focus (with_reducible show bindT _ _ _ = _); rfl) | (focus (with_reducible show setO _ _ _ _ = _); rfl) | (focus (with_reducible show getElem? _ _ = _); rfl) | (focus (with_reducible show some _ = some _); rfl) | (focus (with_reducible show fgK _ _ _ = _); first | with_reducible apply fg_nx | with_reducible apply fg_ct | with_reducible exact fg_bk | with_reducible exact fg_rt | exact fg_rt) | (focus (with_reducible show forGo _ _ _ _ = _); first | with_reducible exact f_nil | with_reducible apply f_cons) | (focus (with_reducible show _ ≤ sizeLine); first | exact sz_le rfl | exact sz_leO (by first | omega | (simp; done) | (simp; omega))) | (focus (with_reducible show _ < sizeLine); first | exact sz_lt rfl | exact sz_ltO (by first | omega | (simp; done) | (simp; omega))) | (focus (with_reducible show ixN _ _ = _); first | exact ix0 | rfl) | (focus (with_reducible show -(2 ^ 63) ≤ _ ∧ _ < 2 ^ 63); exact ⟨by omega, by omega⟩) | with_reducible apply r_cmp2z | (focus (with_reducible show List.length _ = _); rfl) | (focus (with_reducible show List.getLast? _ = _); rfl))
  · rfl

theorem fig_all : ∀ l : List Nat, (l.filter fun c => !fg c).isEmpty = l.all fg
  | [] => rfl
  | c :: l => by
    have := fig_all l
    by_cases h : fg c = true <;> simp [h] at this ⊢
    exact this
theorem cut0 {α : Type} {x : α} {xs : List α} : cutL (x :: xs) none (some 1) = [x] := by
  unfold cutL HT.sIx
  have : (Int.toNat (min 1 ((xs.length : Int) + 1))) = 1 := by omega
  simp
theorem due_of (m : Nat) (hm : 1 ≤ m) (l r : List Nat) (g s1 : Bool) (hl : l.length ≤ 1000) (ha : Asc l) (hr : r.length ≤ 1000) (har : Asc r) (p1 : prim (.slc true false) [.str (mkS l), .int 1] = some (.val (.str (mkS r)))) (f1 : List Nat) (hf1 : f1.length ≤ 1) (haf : Asc f1) (p2 : prim (.slc false true) [.str (mkS l), .int 1] = some (.val (.str (mkS f1))))
    (p3 : prim .isin [.str (mkS f1), .str "ABCDEFGHIJKLMNOPQRSTUVWXYZ"] = some (.val (.bl g))) : evF B (m + 1) 7 [.val (.str (mkS l))] = some (.lst [.bl (lenB 8 l && (l.all lw && !bar (mkS l))), .bl (lenB 8 l && (g && r.all lw)), .bl (lenB 5 l && (f1.all lw && r.all fg))], [some (.val (.str (mkS l)))]) := by
  have c1 := small_ok m hm l hl ha
  have c2 := barred_ok m hm (mkS l)
  have c3 := small_ok m hm r hr har
  have c4 := small_ok m hm f1 (by omega) haf
  have hL : ∀ (n : Int) (o1 o2 o3 o4 : Option O), ev B.G B.CL (evF B m) (.cmp2 .le .le (.lit (.int 1)) (.op .len [.var 0]) (.lit (.int n))) false [some (.val (.str (mkS l))), o1, o2, o3, o4] = some (.val (.bl (lenB n l)), [some (.val (.str (mkS l))), o1, o2, o3, o4]) := fun n o1 o2 o3 o4 =>
    cmp_sym (o0 := .val (.int 1)) (o1 := .val (.int l.length)) (o2 := .val (.int n)) r_lit (by repeat (first | (focus (with_reducible show getS _ _ = _); rfl) | (focus (with_reducible show ev _ _ _ _ false _ = _); first | with_reducible apply r_var | with_reducible exact r_lit | with_reducible apply r_op | with_reducible apply r_callE | with_reducible apply r_tup | with_reducible apply r_frz | with_reducible apply r_and | with_reducible apply r_or | with_reducible apply r_not | with_reducible apply (r_mop rfl) | with_reducible apply r_mopB | with_reducible apply r_lst | with_reducible apply r_mv | with_reducible apply r_sh | with_reducible apply r_glob | with_reducible apply r_cmp2 | with_reducible apply r_ite | with_reducible apply r_bw | with_reducible apply r_meth | with_reducible apply r_new | with_reducible apply r_pop | with_reducible apply r_popAt | with_reducible exact r_dct | with_reducible exact r_dctT | with_reducible apply r_dctOf) | (focus (with_reducible show ev _ _ _ _ true _ = _); first | with_reducible apply t_op | with_reducible apply t_call | with_reducible apply r_and | with_reducible apply r_or | with_reducible apply r_not | with_reducible apply t_var | with_reducible apply t_bw | with_reducible apply r_cmp2 | with_reducible apply t_mop | with_reducible apply t_meth | with_reducible apply t_lit) | (focus (with_reducible show evO _ _ _ _ _ = _); first | with_reducible apply (o_cons rfl) | with_reducible exact o_nil | with_reducible apply o_bw | rfl) | (focus (with_reducible show prim _ _ = _); first | (focus (with_reducible show prim .mod _ = _); exact p_mod (by omega)) | (focus (with_reducible show prim .fdiv _ = _); exact p_fdiv ⟨by omega, by omega⟩) | (focus (with_reducible show prim .mul _ = _); first | exact p_mul2 ⟨by omega, by omega⟩ | exact p_mul1 ⟨by omega, by omega⟩) | exact p_lenS hl | rfl) | (focus (with_reducible show O.frz _ = _); rfl) | (focus (with_reducible show truth _ = _); rfl) | (focus (with_reducible show evV _ _ _ _ _ = _); first | with_reducible apply v_cons | with_reducible exact v_nil | rfl) | (focus (with_reducible show evS _ _ _ _ _ _ = _); first | with_reducible apply s_asg | with_reducible apply s_ite | with_reducible apply s_ret | with_reducible apply s_for | with_reducible apply s_app | with_reducible apply s_setI | with_reducible apply s_expr | with_reducible apply s_unp | with_reducible apply s_aug | with_reducible apply s_while | with_reducible apply s_ext | with_reducible apply s_rev | with_reducible exact s_retN | with_reducible exact s_pass | with_reducible exact s_brk | with_reducible exact s_cont) | (focus (with_reducible show evSs _ _ _ _ _ _ = _); first | with_reducible apply ss_cons | with_reducible exact ss_nil | rfl) | (focus (with_reducible show flK _ _ _ = _); first | with_reducible apply fl_nx | with_reducible exact fl_rt | with_reducible exact fl_bk | with_reducible exact fl_ct | exact fl_rt) | (focus (with_reducible show evA _ _ _ _ _ = _); first | with_reducible apply (a_cons rfl) | with_reducible apply a_rf | with_reducible exact a_nil | with_reducible apply a_fr | rfl) | (focus (with_reducible show takeA _ _ _ = _); rfl) | (focus (with_reducible show giveA _ _ _ = _); rfl) | ((with_reducible apply cond_t); focus (first | rfl | assumption | (simp [*]; done))) | ((with_reducible apply cond_f); focus (first | rfl | assumption | (simp [*]; done))) | (focus (with_reducible show rcv _ _ = _); rfl) | (focus (with_reducible show iterD _ _ = _); rfl) | (focus (with_reducible show plainS _ _ = _); rfl) | (focus (with_reducible show bindT _ _ _ = _); rfl) | (focus (with_reducible show setO _ _ _ _ = _); rfl) | (focus (with_reducible show getElem? _ _ = _); rfl) | (focus (with_reducible show some _ = some _); rfl) | (focus (with_reducible show fgK _ _ _ = _); first | with_reducible apply fg_nx | with_reducible apply fg_ct | with_reducible exact fg_bk | with_reducible exact fg_rt | exact fg_rt) | (focus (with_reducible show forGo _ _ _ _ = _); first | with_reducible exact f_nil | with_reducible apply f_cons) | (focus (with_reducible show _ ≤ sizeLine); first | exact sz_le rfl | exact sz_leO (by first | omega | (simp; done) | (simp; omega))) | (focus (with_reducible show _ < sizeLine); first | exact sz_lt rfl | exact sz_ltO (by first | omega | (simp; done) | (simp; omega))) | (focus (with_reducible show ixN _ _ = _); first | exact ix0 | rfl) | (focus (with_reducible show -(2 ^ 63) ≤ _ ∧ _ < 2 ^ 63); exact ⟨by omega, by omega⟩) | with_reducible apply r_cmp2z | (focus (with_reducible show List.length _ = _); rfl) | (focus (with_reducible show List.getLast? _ = _); rfl))) r_lit rfl rfl
  have hN : ev B.G B.CL (evF B m) (.and (.cmp2 .le .le (.lit (.int 1)) (.op .len [.var 0]) (.lit (.int 8))) (.and (.call 16 [.var 0]) (.not (.call 15 [.var 0])))) false [some (.val (.str (mkS l))), none, none, none, none] = some (.val (.bl (lenB 8 l && (l.all lw && !bar (mkS l)))), [some (.val (.str (mkS l))), none, none, none, none]) :=
    and_sym (hL 8 _ _ _ _) (and_sym (by repeat (first | (focus (with_reducible show getS _ _ = _); rfl) | (focus (with_reducible show ev _ _ _ _ false _ = _); first | with_reducible apply r_var | with_reducible exact r_lit | with_reducible apply r_op | with_reducible apply r_callE | with_reducible apply r_tup | with_reducible apply r_frz | with_reducible apply r_and | with_reducible apply r_or | with_reducible apply r_not | with_reducible apply (r_mop rfl) | with_reducible apply r_mopB | with_reducible apply r_lst | with_reducible apply r_mv | with_reducible apply r_sh | with_reducible apply r_glob | with_reducible apply r_cmp2 | with_reducible apply r_ite | with_reducible apply r_bw | with_reducible apply r_meth | with_reducible apply r_new | with_reducible apply r_pop | with_reducible apply r_popAt | with_reducible exact r_dct | with_reducible exact r_dctT | with_reducible apply r_dctOf) | (focus (with_reducible show ev _ _ _ _ true _ = _); first | with_reducible apply t_op | with_reducible apply t_call | with_reducible apply r_and | with_reducible apply r_or | with_reducible apply r_not | with_reducible apply t_var | with_reducible apply t_bw | with_reducible apply r_cmp2 | with_reducible apply t_mop | with_reducible apply t_meth | with_reducible apply t_lit) | (focus (with_reducible show evO _ _ _ _ _ = _); first | with_reducible apply (o_cons rfl) | with_reducible exact o_nil | with_reducible apply o_bw | rfl) | (focus (with_reducible show prim _ _ = _); first | (focus (with_reducible show prim .mod _ = _); exact p_mod (by omega)) | (focus (with_reducible show prim .fdiv _ = _); exact p_fdiv ⟨by omega, by omega⟩) | (focus (with_reducible show prim .mul _ = _); first | exact p_mul2 ⟨by omega, by omega⟩ | exact p_mul1 ⟨by omega, by omega⟩) | rfl) | (focus (with_reducible show O.frz _ = _); rfl) | (focus (with_reducible show truth _ = _); rfl) | (focus (with_reducible show evV _ _ _ _ _ = _); first | with_reducible apply v_cons | with_reducible exact v_nil | rfl) | (focus (with_reducible show evS _ _ _ _ _ _ = _); first | with_reducible apply s_asg | with_reducible apply s_ite | with_reducible apply s_ret | with_reducible apply s_for | with_reducible apply s_app | with_reducible apply s_setI | with_reducible apply s_expr | with_reducible apply s_unp | with_reducible apply s_aug | with_reducible apply s_while | with_reducible apply s_ext | with_reducible apply s_rev | with_reducible exact s_retN | with_reducible exact s_pass | with_reducible exact s_brk | with_reducible exact s_cont) | (focus (with_reducible show evSs _ _ _ _ _ _ = _); first | with_reducible apply ss_cons | with_reducible exact ss_nil | rfl) | (focus (with_reducible show flK _ _ _ = _); first | with_reducible apply fl_nx | with_reducible exact fl_rt | with_reducible exact fl_bk | with_reducible exact fl_ct | exact fl_rt) | (focus (with_reducible show evA _ _ _ _ _ = _); first | with_reducible apply (a_cons rfl) | with_reducible apply a_rf | with_reducible exact a_nil | with_reducible apply a_fr | rfl) | (focus (with_reducible show evF _ _ _ _ = _); first | (focus (with_reducible show evF _ _ 16 _ = _);  exact c1)) | (focus (with_reducible show takeA _ _ _ = _); rfl) | (focus (with_reducible show giveA _ _ _ = _); rfl) | ((with_reducible apply cond_t); focus (first | rfl | assumption | (simp [*]; done))) | ((with_reducible apply cond_f); focus (first | rfl | assumption | (simp [*]; done))) | (focus (with_reducible show rcv _ _ = _); rfl) | (focus (with_reducible show iterD _ _ = _); rfl) | (focus (with_reducible show plainS _ _ = _); rfl) | (focus (with_reducible show bindT _ _ _ = _); rfl) | (focus (with_reducible show setO _ _ _ _ = _); rfl) | (focus (with_reducible show getElem? _ _ = _); rfl) | (focus (with_reducible show some _ = some _); rfl) | (focus (with_reducible show fgK _ _ _ = _); first | with_reducible apply fg_nx | with_reducible apply fg_ct | with_reducible exact fg_bk | with_reducible exact fg_rt | exact fg_rt) | (focus (with_reducible show forGo _ _ _ _ = _); first | with_reducible exact f_nil | with_reducible apply f_cons) | (focus (with_reducible show _ ≤ sizeLine); first | exact sz_le rfl | exact sz_leO (by first | omega | (simp; done) | (simp; omega))) | (focus (with_reducible show _ < sizeLine); first | exact sz_lt rfl | exact sz_ltO (by first | omega | (simp; done) | (simp; omega))) | (focus (with_reducible show ixN _ _ = _); first | exact ix0 | rfl) | (focus (with_reducible show -(2 ^ 63) ≤ _ ∧ _ < 2 ^ 63); exact ⟨by omega, by omega⟩) | with_reducible apply r_cmp2z | (focus (with_reducible show List.length _ = _); rfl) | (focus (with_reducible show List.getLast? _ = _); rfl))) (not_sym (by repeat (first | (focus (with_reducible show getS _ _ = _); rfl) | (focus (with_reducible show ev _ _ _ _ false _ = _); first | with_reducible apply r_var | with_reducible exact r_lit | with_reducible apply r_op | with_reducible apply r_callE | with_reducible apply r_tup | with_reducible apply r_frz | with_reducible apply r_and | with_reducible apply r_or | with_reducible apply r_not | with_reducible apply (r_mop rfl) | with_reducible apply r_mopB | with_reducible apply r_lst | with_reducible apply r_mv | with_reducible apply r_sh | with_reducible apply r_glob | with_reducible apply r_cmp2 | with_reducible apply r_ite | with_reducible apply r_bw | with_reducible apply r_meth | with_reducible apply r_new | with_reducible apply r_pop | with_reducible apply r_popAt | with_reducible exact r_dct | with_reducible exact r_dctT | with_reducible apply r_dctOf) | (focus (with_reducible show ev _ _ _ _ true _ = _); first | with_reducible apply t_op | with_reducible apply t_call | with_reducible apply r_and | with_reducible apply r_or | with_reducible apply r_not | with_reducible apply t_var | with_reducible apply t_bw | with_reducible apply r_cmp2 | with_reducible apply t_mop | with_reducible apply t_meth | with_reducible apply t_lit) | (focus (with_reducible show evO _ _ _ _ _ = _); first | with_reducible apply (o_cons rfl) | with_reducible exact o_nil | with_reducible apply o_bw | rfl) | (focus (with_reducible show prim _ _ = _); first | (focus (with_reducible show prim .mod _ = _); exact p_mod (by omega)) | (focus (with_reducible show prim .fdiv _ = _); exact p_fdiv ⟨by omega, by omega⟩) | (focus (with_reducible show prim .mul _ = _); first | exact p_mul2 ⟨by omega, by omega⟩ | exact p_mul1 ⟨by omega, by omega⟩) | rfl) | (focus (with_reducible show O.frz _ = _); rfl) | (focus (with_reducible show truth _ = _); rfl) | (focus (with_reducible show evV _ _ _ _ _ = _); first | with_reducible apply v_cons | with_reducible exact v_nil | rfl) | (focus (with_reducible show evS _ _ _ _ _ _ = _); first | with_reducible apply s_asg | with_reducible apply s_ite | with_reducible apply s_ret | with_reducible apply s_for | with_reducible apply s_app | with_reducible apply s_setI | with_reducible apply s_expr | with_reducible apply s_unp | with_reducible apply s_aug | with_reducible apply s_while | with_reducible apply s_ext | with_reducible apply s_rev | with_reducible exact s_retN | with_reducible exact s_pass | with_reducible exact s_brk | with_reducible exact s_cont) | (focus (with_reducible show evSs _ _ _ _ _ _ = _); first | with_reducible apply ss_cons | with_reducible exact ss_nil | rfl) | (focus (with_reducible show flK _ _ _ = _); first | with_reducible apply fl_nx | with_reducible exact fl_rt | with_reducible exact fl_bk | with_reducible exact fl_ct | exact fl_rt) | (focus (with_reducible show evA _ _ _ _ _ = _); first | with_reducible apply (a_cons rfl) | with_reducible apply a_rf | with_reducible exact a_nil | with_reducible apply a_fr | rfl) | (focus (with_reducible show evF _ _ _ _ = _); first | (focus (with_reducible show evF _ _ 15 _ = _);  exact c2)) | (focus (with_reducible show takeA _ _ _ = _); rfl) | (focus (with_reducible show giveA _ _ _ = _); rfl) | ((with_reducible apply cond_t); focus (first | rfl | assumption | (simp [*]; done))) | ((with_reducible apply cond_f); focus (first | rfl | assumption | (simp [*]; done))) | (focus (with_reducible show rcv _ _ = _); rfl) | (focus (with_reducible show iterD _ _ = _); rfl) | (focus (with_reducible show plainS _ _ = _); rfl) | (focus (with_reducible show bindT _ _ _ = _); rfl) | (focus (with_reducible show setO _ _ _ _ = _); rfl) | (focus (with_reducible show getElem? _ _ = _); rfl) | (focus (with_reducible show some _ = some _); rfl) | (focus (with_reducible show fgK _ _ _ = _); first | with_reducible apply fg_nx | with_reducible apply fg_ct | with_reducible exact fg_bk | with_reducible exact fg_rt | exact fg_rt) | (focus (with_reducible show forGo _ _ _ _ = _); first | with_reducible exact f_nil | with_reducible apply f_cons) | (focus (with_reducible show _ ≤ sizeLine); first | exact sz_le rfl | exact sz_leO (by first | omega | (simp; done) | (simp; omega))) | (focus (with_reducible show _ < sizeLine); first | exact sz_lt rfl | exact sz_ltO (by first | omega | (simp; done) | (simp; omega))) | (focus (with_reducible show ixN _ _ = _); first | exact ix0 | rfl) | (focus (with_reducible show -(2 ^ 63) ≤ _ ∧ _ < 2 ^ 63); exact ⟨by omega, by omega⟩) | with_reducible apply r_cmp2z | (focus (with_reducible show List.length _ = _); rfl) | (focus (with_reducible show List.getLast? _ = _); rfl)))) rfl) rfl
  have hG : ∀ o1, ev B.G B.CL (evF B m) (.and (.op .isin [.op (.slc false true) [.var 0, .lit (.int 1)], .lit (.str "ABCDEFGHIJKLMNOPQRSTUVWXYZ")]) (.call 16 [.op (.slc true false) [.var 0, .lit (.int 1)]])) false [some (.val (.str (mkS l))), o1, none, none, none] = some (.val (.bl (g && r.all lw)), [some (.val (.str (mkS l))), o1, none, none, none]) := fun o1 =>
    and_sym (by repeat (first | (focus (with_reducible show getS _ _ = _); rfl) | (focus (with_reducible show ev _ _ _ _ false _ = _); first | with_reducible apply r_var | with_reducible exact r_lit | with_reducible apply r_op | with_reducible apply r_callE | with_reducible apply r_tup | with_reducible apply r_frz | with_reducible apply r_and | with_reducible apply r_or | with_reducible apply r_not | with_reducible apply (r_mop rfl) | with_reducible apply r_mopB | with_reducible apply r_lst | with_reducible apply r_mv | with_reducible apply r_sh | with_reducible apply r_glob | with_reducible apply r_cmp2 | with_reducible apply r_ite | with_reducible apply r_bw | with_reducible apply r_meth | with_reducible apply r_new | with_reducible apply r_pop | with_reducible apply r_popAt | with_reducible exact r_dct | with_reducible exact r_dctT | with_reducible apply r_dctOf) | (focus (with_reducible show ev _ _ _ _ true _ = _); first | with_reducible apply t_op | with_reducible apply t_call | with_reducible apply r_and | with_reducible apply r_or | with_reducible apply r_not | with_reducible apply t_var | with_reducible apply t_bw | with_reducible apply r_cmp2 | with_reducible apply t_mop | with_reducible apply t_meth | with_reducible apply t_lit) | (focus (with_reducible show evO _ _ _ _ _ = _); first | with_reducible apply (o_cons rfl) | with_reducible exact o_nil | with_reducible apply o_bw | rfl) | (focus (with_reducible show prim _ _ = _); first | (focus (with_reducible show prim .mod _ = _); exact p_mod (by omega)) | (focus (with_reducible show prim .fdiv _ = _); exact p_fdiv ⟨by omega, by omega⟩) | (focus (with_reducible show prim .mul _ = _); first | exact p_mul2 ⟨by omega, by omega⟩ | exact p_mul1 ⟨by omega, by omega⟩) | exact p2 | exact p3 | rfl) | (focus (with_reducible show O.frz _ = _); rfl) | (focus (with_reducible show truth _ = _); rfl) | (focus (with_reducible show evV _ _ _ _ _ = _); first | with_reducible apply v_cons | with_reducible exact v_nil | rfl) | (focus (with_reducible show evS _ _ _ _ _ _ = _); first | with_reducible apply s_asg | with_reducible apply s_ite | with_reducible apply s_ret | with_reducible apply s_for | with_reducible apply s_app | with_reducible apply s_setI | with_reducible apply s_expr | with_reducible apply s_unp | with_reducible apply s_aug | with_reducible apply s_while | with_reducible apply s_ext | with_reducible apply s_rev | with_reducible exact s_retN | with_reducible exact s_pass | with_reducible exact s_brk | with_reducible exact s_cont) | (focus (with_reducible show evSs _ _ _ _ _ _ = _); first | with_reducible apply ss_cons | with_reducible exact ss_nil | rfl) | (focus (with_reducible show flK _ _ _ = _); first | with_reducible apply fl_nx | with_reducible exact fl_rt | with_reducible exact fl_bk | with_reducible exact fl_ct | exact fl_rt) | (focus (with_reducible show evA _ _ _ _ _ = _); first | with_reducible apply (a_cons rfl) | with_reducible apply a_rf | with_reducible exact a_nil | with_reducible apply a_fr | rfl) | (focus (with_reducible show takeA _ _ _ = _); rfl) | (focus (with_reducible show giveA _ _ _ = _); rfl) | ((with_reducible apply cond_t); focus (first | rfl | assumption | (simp [*]; done))) | ((with_reducible apply cond_f); focus (first | rfl | assumption | (simp [*]; done))) | (focus (with_reducible show rcv _ _ = _); rfl) | (focus (with_reducible show iterD _ _ = _); rfl) | (focus (with_reducible show plainS _ _ = _); rfl) | (focus (with_reducible show bindT _ _ _ = _); rfl) | (focus (with_reducible show setO _ _ _ _ = _); rfl) | (focus (with_reducible show getElem? _ _ = _); rfl) | (focus (with_reducible show some _ = some _); rfl) | (focus (with_reducible show fgK _ _ _ = _); first | with_reducible apply fg_nx | with_reducible apply fg_ct | with_reducible exact fg_bk | with_reducible exact fg_rt | exact fg_rt) | (focus (with_reducible show forGo _ _ _ _ = _); first | with_reducible exact f_nil | with_reducible apply f_cons) | (focus (with_reducible show _ ≤ sizeLine); first | exact sz_le rfl | exact sz_leO (by first | omega | (simp; done) | (simp; omega))) | (focus (with_reducible show _ < sizeLine); first | exact sz_lt rfl | exact sz_ltO (by first | omega | (simp; done) | (simp; omega))) | (focus (with_reducible show ixN _ _ = _); first | exact ix0 | rfl) | (focus (with_reducible show -(2 ^ 63) ≤ _ ∧ _ < 2 ^ 63); exact ⟨by omega, by omega⟩) | with_reducible apply r_cmp2z | (focus (with_reducible show List.length _ = _); rfl) | (focus (with_reducible show List.getLast? _ = _); rfl))) (by repeat (first | (focus (with_reducible show getS _ _ = _); rfl) | (focus (with_reducible show ev _ _ _ _ false _ = _); first | with_reducible apply r_var | with_reducible exact r_lit | with_reducible apply r_op | with_reducible apply r_callE | with_reducible apply r_tup | with_reducible apply r_frz | with_reducible apply r_and | with_reducible apply r_or | with_reducible apply r_not | with_reducible apply (r_mop rfl) | with_reducible apply r_mopB | with_reducible apply r_lst | with_reducible apply r_mv | with_reducible apply r_sh | with_reducible apply r_glob | with_reducible apply r_cmp2 | with_reducible apply r_ite | with_reducible apply r_bw | with_reducible apply r_meth | with_reducible apply r_new | with_reducible apply r_pop | with_reducible apply r_popAt | with_reducible exact r_dct | with_reducible exact r_dctT | with_reducible apply r_dctOf) | (focus (with_reducible show ev _ _ _ _ true _ = _); first | with_reducible apply t_op | with_reducible apply t_call | with_reducible apply r_and | with_reducible apply r_or | with_reducible apply r_not | with_reducible apply t_var | with_reducible apply t_bw | with_reducible apply r_cmp2 | with_reducible apply t_mop | with_reducible apply t_meth | with_reducible apply t_lit) | (focus (with_reducible show evO _ _ _ _ _ = _); first | with_reducible apply (o_cons rfl) | with_reducible exact o_nil | with_reducible apply o_bw | rfl) | (focus (with_reducible show prim _ _ = _); first | (focus (with_reducible show prim .mod _ = _); exact p_mod (by omega)) | (focus (with_reducible show prim .fdiv _ = _); exact p_fdiv ⟨by omega, by omega⟩) | (focus (with_reducible show prim .mul _ = _); first | exact p_mul2 ⟨by omega, by omega⟩ | exact p_mul1 ⟨by omega, by omega⟩) | exact p1 | rfl) | (focus (with_reducible show O.frz _ = _); rfl) | (focus (with_reducible show truth _ = _); rfl) | (focus (with_reducible show evV _ _ _ _ _ = _); first | with_reducible apply v_cons | with_reducible exact v_nil | rfl) | (focus (with_reducible show evS _ _ _ _ _ _ = _); first | with_reducible apply s_asg | with_reducible apply s_ite | with_reducible apply s_ret | with_reducible apply s_for | with_reducible apply s_app | with_reducible apply s_setI | with_reducible apply s_expr | with_reducible apply s_unp | with_reducible apply s_aug | with_reducible apply s_while | with_reducible apply s_ext | with_reducible apply s_rev | with_reducible exact s_retN | with_reducible exact s_pass | with_reducible exact s_brk | with_reducible exact s_cont) | (focus (with_reducible show evSs _ _ _ _ _ _ = _); first | with_reducible apply ss_cons | with_reducible exact ss_nil | rfl) | (focus (with_reducible show flK _ _ _ = _); first | with_reducible apply fl_nx | with_reducible exact fl_rt | with_reducible exact fl_bk | with_reducible exact fl_ct | exact fl_rt) | (focus (with_reducible show evA _ _ _ _ _ = _); first | with_reducible apply (a_cons rfl) | with_reducible apply a_rf | with_reducible exact a_nil | with_reducible apply a_fr | rfl) | (focus (with_reducible show evF _ _ _ _ = _); first | (focus (with_reducible show evF _ _ 16 _ = _);  exact c3)) | (focus (with_reducible show takeA _ _ _ = _); rfl) | (focus (with_reducible show giveA _ _ _ = _); rfl) | ((with_reducible apply cond_t); focus (first | rfl | assumption | (simp [*]; done))) | ((with_reducible apply cond_f); focus (first | rfl | assumption | (simp [*]; done))) | (focus (with_reducible show rcv _ _ = _); rfl) | (focus (with_reducible show iterD _ _ = _); rfl) | (focus (with_reducible show plainS _ _ = _); rfl) | (focus (with_reducible show bindT _ _ _ = _); rfl) | (focus (with_reducible show setO _ _ _ _ = _); rfl) | (focus (with_reducible show getElem? _ _ = _); rfl) | (focus (with_reducible show some _ = some _); rfl) | (focus (with_reducible show fgK _ _ _ = _); first | with_reducible apply fg_nx | with_reducible apply fg_ct | with_reducible exact fg_bk | with_reducible exact fg_rt | exact fg_rt) | (focus (with_reducible show forGo _ _ _ _ = _); first | with_reducible exact f_nil | with_reducible apply f_cons) | (focus (with_reducible show _ ≤ sizeLine); first | exact sz_le rfl | exact sz_leO (by first | omega | (simp; done) | (simp; omega))) | (focus (with_reducible show _ < sizeLine); first | exact sz_lt rfl | exact sz_ltO (by first | omega | (simp; done) | (simp; omega))) | (focus (with_reducible show ixN _ _ = _); first | exact ix0 | rfl) | (focus (with_reducible show -(2 ^ 63) ≤ _ ∧ _ < 2 ^ 63); exact ⟨by omega, by omega⟩) | with_reducible apply r_cmp2z | (focus (with_reducible show List.length _ = _); rfl) | (focus (with_reducible show List.getLast? _ = _); rfl))) rfl
  have hc := fun (o1 o2 : Option O) => c_filter (step := cStep B.G B.CL (evF B m) (.one 4) [.op .notin [.var 4, .lit (.str "0123456789")]] e7_0) (ρ := [some (.val (.str (mkS l))), o1, o2, none, none]) (fun x => match x with | .str ⟨⟨[c]⟩⟩ => !fg c | _ => false) (r.map sign) (by
    intro x hx
    obtain ⟨c, hc, rfl⟩ := List.mem_map.mp hx
    by_cases h : c ∈ ("0123456789" : Str).cps.toList
    · have e : (match sign c with | .str ⟨⟨[c]⟩⟩ => !fg c | _ => false) = false := by show (!fg c) = false; simp [fg, h]
      rw [e]
      have hp : prim .notin [sign c, .str "0123456789"] = some (.val (.bl false)) := by rw [p_nin1]; simp [h]
      refine cs_1 rfl (ρ2 := [some (.val (.str (mkS l))), o1, o2, none, some (.val (sign c))]) (b := false) ?_ rfl
      repeat (first | (focus (with_reducible show getS _ _ = _); rfl) | (focus (with_reducible show ev _ _ _ _ false _ = _); first | with_reducible apply r_var | with_reducible exact r_lit | with_reducible apply r_op | with_reducible apply r_callE | with_reducible apply r_tup | with_reducible apply r_frz | with_reducible apply r_and | with_reducible apply r_or | with_reducible apply r_not | with_reducible apply (r_mop rfl) | with_reducible apply r_mopB | with_reducible apply r_lst | with_reducible apply r_mv | with_reducible apply r_sh | with_reducible apply r_glob | with_reducible apply r_cmp2 | with_reducible apply r_ite | with_reducible apply r_bw | with_reducible apply r_meth | with_reducible apply r_new | with_reducible apply r_pop | with_reducible apply r_popAt | with_reducible exact r_dct | with_reducible exact r_dctT | with_reducible apply r_dctOf) | (focus (with_reducible show ev _ _ _ _ true _ = _); first | with_reducible apply t_op | with_reducible apply t_call | with_reducible apply r_and | with_reducible apply r_or | with_reducible apply r_not | with_reducible apply t_var | with_reducible apply t_bw | with_reducible apply r_cmp2 | with_reducible apply t_mop | with_reducible apply t_meth | with_reducible apply t_lit) | (focus (with_reducible show evO _ _ _ _ _ = _); first | with_reducible apply (o_cons rfl) | with_reducible exact o_nil | with_reducible apply o_bw | rfl) | (focus (with_reducible show prim _ _ = _); first | (focus (with_reducible show prim .mod _ = _); exact p_mod (by omega)) | (focus (with_reducible show prim .fdiv _ = _); exact p_fdiv ⟨by omega, by omega⟩) | (focus (with_reducible show prim .mul _ = _); first | exact p_mul2 ⟨by omega, by omega⟩ | exact p_mul1 ⟨by omega, by omega⟩) | exact hp | rfl) | (focus (with_reducible show O.frz _ = _); rfl) | (focus (with_reducible show truth _ = _); rfl) | (focus (with_reducible show evV _ _ _ _ _ = _); first | with_reducible apply v_cons | with_reducible exact v_nil | rfl) | (focus (with_reducible show evS _ _ _ _ _ _ = _); first | with_reducible apply s_asg | with_reducible apply s_ite | with_reducible apply s_ret | with_reducible apply s_for | with_reducible apply s_app | with_reducible apply s_setI | with_reducible apply s_expr | with_reducible apply s_unp | with_reducible apply s_aug | with_reducible apply s_while | with_reducible apply s_ext | with_reducible apply s_rev | with_reducible exact s_retN | with_reducible exact s_pass | with_reducible exact s_brk | with_reducible exact s_cont) | (focus (with_reducible show evSs _ _ _ _ _ _ = _); first | with_reducible apply ss_cons | with_reducible exact ss_nil | rfl) | (focus (with_reducible show flK _ _ _ = _); first | with_reducible apply fl_nx | with_reducible exact fl_rt | with_reducible exact fl_bk | with_reducible exact fl_ct | exact fl_rt) | (focus (with_reducible show evA _ _ _ _ _ = _); first | with_reducible apply (a_cons rfl) | with_reducible apply a_rf | with_reducible exact a_nil | with_reducible apply a_fr | rfl) | (focus (with_reducible show takeA _ _ _ = _); rfl) | (focus (with_reducible show giveA _ _ _ = _); rfl) | ((with_reducible apply cond_t); focus (first | rfl | assumption | (simp [*]; done))) | ((with_reducible apply cond_f); focus (first | rfl | assumption | (simp [*]; done))) | (focus (with_reducible show rcv _ _ = _); rfl) | (focus (with_reducible show iterD _ _ = _); rfl) | (focus (with_reducible show plainS _ _ = _); rfl) | (focus (with_reducible show bindT _ _ _ = _); rfl) | (focus (with_reducible show setO _ _ _ _ = _); rfl) | (focus (with_reducible show getElem? _ _ = _); rfl) | (focus (with_reducible show some _ = some _); rfl) | (focus (with_reducible show fgK _ _ _ = _); first | with_reducible apply fg_nx | with_reducible apply fg_ct | with_reducible exact fg_bk | with_reducible exact fg_rt | exact fg_rt) | (focus (with_reducible show forGo _ _ _ _ = _); first | with_reducible exact f_nil | with_reducible apply f_cons) | (focus (with_reducible show _ ≤ sizeLine); first | exact sz_le rfl | exact sz_leO (by first | omega | (simp; done) | (simp; omega))) | (focus (with_reducible show _ < sizeLine); first | exact sz_lt rfl | exact sz_ltO (by first | omega | (simp; done) | (simp; omega))) | (focus (with_reducible show ixN _ _ = _); first | exact ix0 | rfl) | (focus (with_reducible show -(2 ^ 63) ≤ _ ∧ _ < 2 ^ 63); exact ⟨by omega, by omega⟩) | with_reducible apply r_cmp2z | (focus (with_reducible show List.length _ = _); rfl) | (focus (with_reducible show List.getLast? _ = _); rfl))
    · have e : (match sign c with | .str ⟨⟨[c]⟩⟩ => !fg c | _ => false) = true := by show (!fg c) = true; simp [fg, h]
      rw [e]
      have hp : prim .notin [sign c, .str "0123456789"] = some (.val (.bl true)) := by rw [p_nin1]; simp [h]
      refine cs_1 rfl (ρ2 := [some (.val (.str (mkS l))), o1, o2, none, some (.val (sign c))]) (b := true) ?_ ?_
      · repeat (first | (focus (with_reducible show getS _ _ = _); rfl) | (focus (with_reducible show ev _ _ _ _ false _ = _); first | with_reducible apply r_var | with_reducible exact r_lit | with_reducible apply r_op | with_reducible apply r_callE | with_reducible apply r_tup | with_reducible apply r_frz | with_reducible apply r_and | with_reducible apply r_or | with_reducible apply r_not | with_reducible apply (r_mop rfl) | with_reducible apply r_mopB | with_reducible apply r_lst | with_reducible apply r_mv | with_reducible apply r_sh | with_reducible apply r_glob | with_reducible apply r_cmp2 | with_reducible apply r_ite | with_reducible apply r_bw | with_reducible apply r_meth | with_reducible apply r_new | with_reducible apply r_pop | with_reducible apply r_popAt | with_reducible exact r_dct | with_reducible exact r_dctT | with_reducible apply r_dctOf) | (focus (with_reducible show ev _ _ _ _ true _ = _); first | with_reducible apply t_op | with_reducible apply t_call | with_reducible apply r_and | with_reducible apply r_or | with_reducible apply r_not | with_reducible apply t_var | with_reducible apply t_bw | with_reducible apply r_cmp2 | with_reducible apply t_mop | with_reducible apply t_meth | with_reducible apply t_lit) | (focus (with_reducible show evO _ _ _ _ _ = _); first | with_reducible apply (o_cons rfl) | with_reducible exact o_nil | with_reducible apply o_bw | rfl) | (focus (with_reducible show prim _ _ = _); first | (focus (with_reducible show prim .mod _ = _); exact p_mod (by omega)) | (focus (with_reducible show prim .fdiv _ = _); exact p_fdiv ⟨by omega, by omega⟩) | (focus (with_reducible show prim .mul _ = _); first | exact p_mul2 ⟨by omega, by omega⟩ | exact p_mul1 ⟨by omega, by omega⟩) | exact hp | rfl) | (focus (with_reducible show O.frz _ = _); rfl) | (focus (with_reducible show truth _ = _); rfl) | (focus (with_reducible show evV _ _ _ _ _ = _); first | with_reducible apply v_cons | with_reducible exact v_nil | rfl) | (focus (with_reducible show evS _ _ _ _ _ _ = _); first | with_reducible apply s_asg | with_reducible apply s_ite | with_reducible apply s_ret | with_reducible apply s_for | with_reducible apply s_app | with_reducible apply s_setI | with_reducible apply s_expr | with_reducible apply s_unp | with_reducible apply s_aug | with_reducible apply s_while | with_reducible apply s_ext | with_reducible apply s_rev | with_reducible exact s_retN | with_reducible exact s_pass | with_reducible exact s_brk | with_reducible exact s_cont) | (focus (with_reducible show evSs _ _ _ _ _ _ = _); first | with_reducible apply ss_cons | with_reducible exact ss_nil | rfl) | (focus (with_reducible show flK _ _ _ = _); first | with_reducible apply fl_nx | with_reducible exact fl_rt | with_reducible exact fl_bk | with_reducible exact fl_ct | exact fl_rt) | (focus (with_reducible show evA _ _ _ _ _ = _); first | with_reducible apply (a_cons rfl) | with_reducible apply a_rf | with_reducible exact a_nil | with_reducible apply a_fr | rfl) | (focus (with_reducible show takeA _ _ _ = _); rfl) | (focus (with_reducible show giveA _ _ _ = _); rfl) | ((with_reducible apply cond_t); focus (first | rfl | assumption | (simp [*]; done))) | ((with_reducible apply cond_f); focus (first | rfl | assumption | (simp [*]; done))) | (focus (with_reducible show rcv _ _ = _); rfl) | (focus (with_reducible show iterD _ _ = _); rfl) | (focus (with_reducible show plainS _ _ = _); rfl) | (focus (with_reducible show bindT _ _ _ = _); rfl) | (focus (with_reducible show setO _ _ _ _ = _); rfl) | (focus (with_reducible show getElem? _ _ = _); rfl) | (focus (with_reducible show some _ = some _); rfl) | (focus (with_reducible show fgK _ _ _ = _); first | with_reducible apply fg_nx | with_reducible apply fg_ct | with_reducible exact fg_bk | with_reducible exact fg_rt | exact fg_rt) | (focus (with_reducible show forGo _ _ _ _ = _); first | with_reducible exact f_nil | with_reducible apply f_cons) | (focus (with_reducible show _ ≤ sizeLine); first | exact sz_le rfl | exact sz_leO (by first | omega | (simp; done) | (simp; omega))) | (focus (with_reducible show _ < sizeLine); first | exact sz_lt rfl | exact sz_ltO (by first | omega | (simp; done) | (simp; omega))) | (focus (with_reducible show ixN _ _ = _); first | exact ix0 | rfl) | (focus (with_reducible show -(2 ^ 63) ≤ _ ∧ _ < 2 ^ 63); exact ⟨by omega, by omega⟩) | with_reducible apply r_cmp2z | (focus (with_reducible show List.length _ = _); rfl) | (focus (with_reducible show List.getLast? _ = _); rfl))
      · exact cs_1e (G := B.G) (CL := B.CL) (C := evF B m) (e := e7_0) (ρ := [some (.val (.str (mkS l))), o1, o2, none, some (.val (sign c))]) (o := .val (sign c)) (by unfold e7_0; repeat (first | (focus (with_reducible show getS _ _ = _); rfl) | (focus (with_reducible show ev _ _ _ _ false _ = _); first | with_reducible apply r_var | with_reducible exact r_lit | with_reducible apply r_op | with_reducible apply r_callE | with_reducible apply r_tup | with_reducible apply r_frz | with_reducible apply r_and | with_reducible apply r_or | with_reducible apply r_not | with_reducible apply (r_mop rfl) | with_reducible apply r_mopB | with_reducible apply r_lst | with_reducible apply r_mv | with_reducible apply r_sh | with_reducible apply r_glob | with_reducible apply r_cmp2 | with_reducible apply r_ite | with_reducible apply r_bw | with_reducible apply r_meth | with_reducible apply r_new | with_reducible apply r_pop | with_reducible apply r_popAt | with_reducible exact r_dct | with_reducible exact r_dctT | with_reducible apply r_dctOf) | (focus (with_reducible show ev _ _ _ _ true _ = _); first | with_reducible apply t_op | with_reducible apply t_call | with_reducible apply r_and | with_reducible apply r_or | with_reducible apply r_not | with_reducible apply t_var | with_reducible apply t_bw | with_reducible apply r_cmp2 | with_reducible apply t_mop | with_reducible apply t_meth | with_reducible apply t_lit) | (focus (with_reducible show evO _ _ _ _ _ = _); first | with_reducible apply (o_cons rfl) | with_reducible exact o_nil | with_reducible apply o_bw | rfl) | (focus (with_reducible show prim _ _ = _); first | (focus (with_reducible show prim .mod _ = _); exact p_mod (by omega)) | (focus (with_reducible show prim .fdiv _ = _); exact p_fdiv ⟨by omega, by omega⟩) | (focus (with_reducible show prim .mul _ = _); first | exact p_mul2 ⟨by omega, by omega⟩ | exact p_mul1 ⟨by omega, by omega⟩) | rfl) | (focus (with_reducible show O.frz _ = _); rfl) | (focus (with_reducible show truth _ = _); rfl) | (focus (with_reducible show evV _ _ _ _ _ = _); first | with_reducible apply v_cons | with_reducible exact v_nil | rfl) | (focus (with_reducible show evS _ _ _ _ _ _ = _); first | with_reducible apply s_asg | with_reducible apply s_ite | with_reducible apply s_ret | with_reducible apply s_for | with_reducible apply s_app | with_reducible apply s_setI | with_reducible apply s_expr | with_reducible apply s_unp | with_reducible apply s_aug | with_reducible apply s_while | with_reducible apply s_ext | with_reducible apply s_rev | with_reducible exact s_retN | with_reducible exact s_pass | with_reducible exact s_brk | with_reducible exact s_cont) | (focus (with_reducible show evSs _ _ _ _ _ _ = _); first | with_reducible apply ss_cons | with_reducible exact ss_nil | rfl) | (focus (with_reducible show flK _ _ _ = _); first | with_reducible apply fl_nx | with_reducible exact fl_rt | with_reducible exact fl_bk | with_reducible exact fl_ct | exact fl_rt) | (focus (with_reducible show evA _ _ _ _ _ = _); first | with_reducible apply (a_cons rfl) | with_reducible apply a_rf | with_reducible exact a_nil | with_reducible apply a_fr | rfl) | (focus (with_reducible show takeA _ _ _ = _); rfl) | (focus (with_reducible show giveA _ _ _ = _); rfl) | ((with_reducible apply cond_t); focus (first | rfl | assumption | (simp [*]; done))) | ((with_reducible apply cond_f); focus (first | rfl | assumption | (simp [*]; done))) | (focus (with_reducible show rcv _ _ = _); rfl) | (focus (with_reducible show iterD _ _ = _); rfl) | (focus (with_reducible show plainS _ _ = _); rfl) | (focus (with_reducible show bindT _ _ _ = _); rfl) | (focus (with_reducible show setO _ _ _ _ = _); rfl) | (focus (with_reducible show getElem? _ _ = _); rfl) | (focus (with_reducible show some _ = some _); rfl) | (focus (with_reducible show fgK _ _ _ = _); first | with_reducible apply fg_nx | with_reducible apply fg_ct | with_reducible exact fg_bk | with_reducible exact fg_rt | exact fg_rt) | (focus (with_reducible show forGo _ _ _ _ = _); first | with_reducible exact f_nil | with_reducible apply f_cons) | (focus (with_reducible show _ ≤ sizeLine); first | exact sz_le rfl | exact sz_leO (by first | omega | (simp; done) | (simp; omega))) | (focus (with_reducible show _ < sizeLine); first | exact sz_lt rfl | exact sz_ltO (by first | omega | (simp; done) | (simp; omega))) | (focus (with_reducible show ixN _ _ = _); first | exact ix0 | rfl) | (focus (with_reducible show -(2 ^ 63) ≤ _ ∧ _ < 2 ^ 63); exact ⟨by omega, by omega⟩) | with_reducible apply r_cmp2z | (focus (with_reducible show List.length _ = _); rfl) | (focus (with_reducible show List.getLast? _ = _); rfl))))
  have ef : (r.map sign).filter (fun x => match x with | .str ⟨⟨[c]⟩⟩ => !fg c | _ => false) = (r.filter fun c => !fg c).map sign := by
    rw [List.filter_map]; rfl
  rw [ef] at hc
  have hp : prim .eq [.lst ((r.filter fun c => !fg c).map sign), .lst []] = some (.val (.bl (r.all fg))) := by
    rw [p_eqNil fun c hc => har c (List.mem_filter.mp hc).1, fig_all]
  have hz : (r.filter fun c => !fg c).length ≤ 1000 := Nat.le_trans (List.length_filter_le _ _) hr
  have hO : ∀ o1 o2, ev B.G B.CL (evF B m) (.and (.cmp2 .le .le (.lit (.int 1)) (.op .len [.var 0]) (.lit (.int 5))) (.and (.call 16 [.op (.slc false true) [.var 0, .lit (.int 1)]]) (.var 3))) false [some (.val (.str (mkS l))), o1, o2, some (.val (.bl (r.all fg))), none] = some (.val (.bl (lenB 5 l && (f1.all lw && r.all fg))), [some (.val (.str (mkS l))), o1, o2, some (.val (.bl (r.all fg))), none]) := fun o1 o2 =>
    and_sym (hL 5 _ _ _ _) (and_sym (by repeat (first | (focus (with_reducible show getS _ _ = _); rfl) | (focus (with_reducible show ev _ _ _ _ false _ = _); first | with_reducible apply r_var | with_reducible exact r_lit | with_reducible apply r_op | with_reducible apply r_callE | with_reducible apply r_tup | with_reducible apply r_frz | with_reducible apply r_and | with_reducible apply r_or | with_reducible apply r_not | with_reducible apply (r_mop rfl) | with_reducible apply r_mopB | with_reducible apply r_lst | with_reducible apply r_mv | with_reducible apply r_sh | with_reducible apply r_glob | with_reducible apply r_cmp2 | with_reducible apply r_ite | with_reducible apply r_bw | with_reducible apply r_meth | with_reducible apply r_new | with_reducible apply r_pop | with_reducible apply r_popAt | with_reducible exact r_dct | with_reducible exact r_dctT | with_reducible apply r_dctOf) | (focus (with_reducible show ev _ _ _ _ true _ = _); first | with_reducible apply t_op | with_reducible apply t_call | with_reducible apply r_and | with_reducible apply r_or | with_reducible apply r_not | with_reducible apply t_var | with_reducible apply t_bw | with_reducible apply r_cmp2 | with_reducible apply t_mop | with_reducible apply t_meth | with_reducible apply t_lit) | (focus (with_reducible show evO _ _ _ _ _ = _); first | with_reducible apply (o_cons rfl) | with_reducible exact o_nil | with_reducible apply o_bw | rfl) | (focus (with_reducible show prim _ _ = _); first | (focus (with_reducible show prim .mod _ = _); exact p_mod (by omega)) | (focus (with_reducible show prim .fdiv _ = _); exact p_fdiv ⟨by omega, by omega⟩) | (focus (with_reducible show prim .mul _ = _); first | exact p_mul2 ⟨by omega, by omega⟩ | exact p_mul1 ⟨by omega, by omega⟩) | exact p2 | rfl) | (focus (with_reducible show O.frz _ = _); rfl) | (focus (with_reducible show truth _ = _); rfl) | (focus (with_reducible show evV _ _ _ _ _ = _); first | with_reducible apply v_cons | with_reducible exact v_nil | rfl) | (focus (with_reducible show evS _ _ _ _ _ _ = _); first | with_reducible apply s_asg | with_reducible apply s_ite | with_reducible apply s_ret | with_reducible apply s_for | with_reducible apply s_app | with_reducible apply s_setI | with_reducible apply s_expr | with_reducible apply s_unp | with_reducible apply s_aug | with_reducible apply s_while | with_reducible apply s_ext | with_reducible apply s_rev | with_reducible exact s_retN | with_reducible exact s_pass | with_reducible exact s_brk | with_reducible exact s_cont) | (focus (with_reducible show evSs _ _ _ _ _ _ = _); first | with_reducible apply ss_cons | with_reducible exact ss_nil | rfl) | (focus (with_reducible show flK _ _ _ = _); first | with_reducible apply fl_nx | with_reducible exact fl_rt | with_reducible exact fl_bk | with_reducible exact fl_ct | exact fl_rt) | (focus (with_reducible show evA _ _ _ _ _ = _); first | with_reducible apply (a_cons rfl) | with_reducible apply a_rf | with_reducible exact a_nil | with_reducible apply a_fr | rfl) | (focus (with_reducible show evF _ _ _ _ = _); first | (focus (with_reducible show evF _ _ 16 _ = _);  exact c4)) | (focus (with_reducible show takeA _ _ _ = _); rfl) | (focus (with_reducible show giveA _ _ _ = _); rfl) | ((with_reducible apply cond_t); focus (first | rfl | assumption | (simp [*]; done))) | ((with_reducible apply cond_f); focus (first | rfl | assumption | (simp [*]; done))) | (focus (with_reducible show rcv _ _ = _); rfl) | (focus (with_reducible show iterD _ _ = _); rfl) | (focus (with_reducible show plainS _ _ = _); rfl) | (focus (with_reducible show bindT _ _ _ = _); rfl) | (focus (with_reducible show setO _ _ _ _ = _); rfl) | (focus (with_reducible show getElem? _ _ = _); rfl) | (focus (with_reducible show some _ = some _); rfl) | (focus (with_reducible show fgK _ _ _ = _); first | with_reducible apply fg_nx | with_reducible apply fg_ct | with_reducible exact fg_bk | with_reducible exact fg_rt | exact fg_rt) | (focus (with_reducible show forGo _ _ _ _ = _); first | with_reducible exact f_nil | with_reducible apply f_cons) | (focus (with_reducible show _ ≤ sizeLine); first | exact sz_le rfl | exact sz_leO (by first | omega | (simp; done) | (simp; omega))) | (focus (with_reducible show _ < sizeLine); first | exact sz_lt rfl | exact sz_ltO (by first | omega | (simp; done) | (simp; omega))) | (focus (with_reducible show ixN _ _ = _); first | exact ix0 | rfl) | (focus (with_reducible show -(2 ^ 63) ≤ _ ∧ _ < 2 ^ 63); exact ⟨by omega, by omega⟩) | with_reducible apply r_cmp2z | (focus (with_reducible show List.length _ = _); rfl) | (focus (with_reducible show List.getLast? _ = _); rfl))) (by repeat (first | (focus (with_reducible show getS _ _ = _); rfl) | (focus (with_reducible show ev _ _ _ _ false _ = _); first | with_reducible apply r_var | with_reducible exact r_lit | with_reducible apply r_op | with_reducible apply r_callE | with_reducible apply r_tup | with_reducible apply r_frz | with_reducible apply r_and | with_reducible apply r_or | with_reducible apply r_not | with_reducible apply (r_mop rfl) | with_reducible apply r_mopB | with_reducible apply r_lst | with_reducible apply r_mv | with_reducible apply r_sh | with_reducible apply r_glob | with_reducible apply r_cmp2 | with_reducible apply r_ite | with_reducible apply r_bw | with_reducible apply r_meth | with_reducible apply r_new | with_reducible apply r_pop | with_reducible apply r_popAt | with_reducible exact r_dct | with_reducible exact r_dctT | with_reducible apply r_dctOf) | (focus (with_reducible show ev _ _ _ _ true _ = _); first | with_reducible apply t_op | with_reducible apply t_call | with_reducible apply r_and | with_reducible apply r_or | with_reducible apply r_not | with_reducible apply t_var | with_reducible apply t_bw | with_reducible apply r_cmp2 | with_reducible apply t_mop | with_reducible apply t_meth | with_reducible apply t_lit) | (focus (with_reducible show evO _ _ _ _ _ = _); first | with_reducible apply (o_cons rfl) | with_reducible exact o_nil | with_reducible apply o_bw | rfl) | (focus (with_reducible show prim _ _ = _); first | (focus (with_reducible show prim .mod _ = _); exact p_mod (by omega)) | (focus (with_reducible show prim .fdiv _ = _); exact p_fdiv ⟨by omega, by omega⟩) | (focus (with_reducible show prim .mul _ = _); first | exact p_mul2 ⟨by omega, by omega⟩ | exact p_mul1 ⟨by omega, by omega⟩) | rfl) | (focus (with_reducible show O.frz _ = _); rfl) | (focus (with_reducible show truth _ = _); rfl) | (focus (with_reducible show evV _ _ _ _ _ = _); first | with_reducible apply v_cons | with_reducible exact v_nil | rfl) | (focus (with_reducible show evS _ _ _ _ _ _ = _); first | with_reducible apply s_asg | with_reducible apply s_ite | with_reducible apply s_ret | with_reducible apply s_for | with_reducible apply s_app | with_reducible apply s_setI | with_reducible apply s_expr | with_reducible apply s_unp | with_reducible apply s_aug | with_reducible apply s_while | with_reducible apply s_ext | with_reducible apply s_rev | with_reducible exact s_retN | with_reducible exact s_pass | with_reducible exact s_brk | with_reducible exact s_cont) | (focus (with_reducible show evSs _ _ _ _ _ _ = _); first | with_reducible apply ss_cons | with_reducible exact ss_nil | rfl) | (focus (with_reducible show flK _ _ _ = _); first | with_reducible apply fl_nx | with_reducible exact fl_rt | with_reducible exact fl_bk | with_reducible exact fl_ct | exact fl_rt) | (focus (with_reducible show evA _ _ _ _ _ = _); first | with_reducible apply (a_cons rfl) | with_reducible apply a_rf | with_reducible exact a_nil | with_reducible apply a_fr | rfl) | (focus (with_reducible show takeA _ _ _ = _); rfl) | (focus (with_reducible show giveA _ _ _ = _); rfl) | ((with_reducible apply cond_t); focus (first | rfl | assumption | (simp [*]; done))) | ((with_reducible apply cond_f); focus (first | rfl | assumption | (simp [*]; done))) | (focus (with_reducible show rcv _ _ = _); rfl) | (focus (with_reducible show iterD _ _ = _); rfl) | (focus (with_reducible show plainS _ _ = _); rfl) | (focus (with_reducible show bindT _ _ _ = _); rfl) | (focus (with_reducible show setO _ _ _ _ = _); rfl) | (focus (with_reducible show getElem? _ _ = _); rfl) | (focus (with_reducible show some _ = some _); rfl) | (focus (with_reducible show fgK _ _ _ = _); first | with_reducible apply fg_nx | with_reducible apply fg_ct | with_reducible exact fg_bk | with_reducible exact fg_rt | exact fg_rt) | (focus (with_reducible show forGo _ _ _ _ = _); first | with_reducible exact f_nil | with_reducible apply f_cons) | (focus (with_reducible show _ ≤ sizeLine); first | exact sz_le rfl | exact sz_leO (by first | omega | (simp; done) | (simp; omega))) | (focus (with_reducible show _ < sizeLine); first | exact sz_lt rfl | exact sz_ltO (by first | omega | (simp; done) | (simp; omega))) | (focus (with_reducible show ixN _ _ = _); first | exact ix0 | rfl) | (focus (with_reducible show -(2 ^ 63) ≤ _ ∧ _ < 2 ^ 63); exact ⟨by omega, by omega⟩) | with_reducible apply r_cmp2z | (focus (with_reducible show List.length _ = _); rfl) | (focus (with_reducible show List.getLast? _ = _); rfl))) rfl) rfl
  have hM : ∀ o1 o3, ev B.G B.CL (evF B m) (.and (.cmp2 .le .le (.lit (.int 1)) (.op .len [.var 0]) (.lit (.int 8))) (.var 2)) false [some (.val (.str (mkS l))), o1, some (.val (.bl (g && r.all lw))), o3, none] = some (.val (.bl (lenB 8 l && (g && r.all lw))), [some (.val (.str (mkS l))), o1, some (.val (.bl (g && r.all lw))), o3, none]) := fun o1 o3 =>
    and_sym (hL 8 _ _ _ _) (by repeat (first | (focus (with_reducible show getS _ _ = _); rfl) | (focus (with_reducible show ev _ _ _ _ false _ = _); first | with_reducible apply r_var | with_reducible exact r_lit | with_reducible apply r_op | with_reducible apply r_callE | with_reducible apply r_tup | with_reducible apply r_frz | with_reducible apply r_and | with_reducible apply r_or | with_reducible apply r_not | with_reducible apply (r_mop rfl) | with_reducible apply r_mopB | with_reducible apply r_lst | with_reducible apply r_mv | with_reducible apply r_sh | with_reducible apply r_glob | with_reducible apply r_cmp2 | with_reducible apply r_ite | with_reducible apply r_bw | with_reducible apply r_meth | with_reducible apply r_new | with_reducible apply r_pop | with_reducible apply r_popAt | with_reducible exact r_dct | with_reducible exact r_dctT | with_reducible apply r_dctOf) | (focus (with_reducible show ev _ _ _ _ true _ = _); first | with_reducible apply t_op | with_reducible apply t_call | with_reducible apply r_and | with_reducible apply r_or | with_reducible apply r_not | with_reducible apply t_var | with_reducible apply t_bw | with_reducible apply r_cmp2 | with_reducible apply t_mop | with_reducible apply t_meth | with_reducible apply t_lit) | (focus (with_reducible show evO _ _ _ _ _ = _); first | with_reducible apply (o_cons rfl) | with_reducible exact o_nil | with_reducible apply o_bw | rfl) | (focus (with_reducible show prim _ _ = _); first | (focus (with_reducible show prim .mod _ = _); exact p_mod (by omega)) | (focus (with_reducible show prim .fdiv _ = _); exact p_fdiv ⟨by omega, by omega⟩) | (focus (with_reducible show prim .mul _ = _); first | exact p_mul2 ⟨by omega, by omega⟩ | exact p_mul1 ⟨by omega, by omega⟩) | rfl) | (focus (with_reducible show O.frz _ = _); rfl) | (focus (with_reducible show truth _ = _); rfl) | (focus (with_reducible show evV _ _ _ _ _ = _); first | with_reducible apply v_cons | with_reducible exact v_nil | rfl) | (focus (with_reducible show evS _ _ _ _ _ _ = _); first | with_reducible apply s_asg | with_reducible apply s_ite | with_reducible apply s_ret | with_reducible apply s_for | with_reducible apply s_app | with_reducible apply s_setI | with_reducible apply s_expr | with_reducible apply s_unp | with_reducible apply s_aug | with_reducible apply s_while | with_reducible apply s_ext | with_reducible apply s_rev | with_reducible exact s_retN | with_reducible exact s_pass | with_reducible exact s_brk | with_reducible exact s_cont) | (focus (with_reducible show evSs _ _ _ _ _ _ = _); first | with_reducible apply ss_cons | with_reducible exact ss_nil | rfl) | (focus (with_reducible show flK _ _ _ = _); first | with_reducible apply fl_nx | with_reducible exact fl_rt | with_reducible exact fl_bk | with_reducible exact fl_ct | exact fl_rt) | (focus (with_reducible show evA _ _ _ _ _ = _); first | with_reducible apply (a_cons rfl) | with_reducible apply a_rf | with_reducible exact a_nil | with_reducible apply a_fr | rfl) | (focus (with_reducible show takeA _ _ _ = _); rfl) | (focus (with_reducible show giveA _ _ _ = _); rfl) | ((with_reducible apply cond_t); focus (first | rfl | assumption | (simp [*]; done))) | ((with_reducible apply cond_f); focus (first | rfl | assumption | (simp [*]; done))) | (focus (with_reducible show rcv _ _ = _); rfl) | (focus (with_reducible show iterD _ _ = _); rfl) | (focus (with_reducible show plainS _ _ = _); rfl) | (focus (with_reducible show bindT _ _ _ = _); rfl) | (focus (with_reducible show setO _ _ _ _ = _); rfl) | (focus (with_reducible show getElem? _ _ = _); rfl) | (focus (with_reducible show some _ = some _); rfl) | (focus (with_reducible show fgK _ _ _ = _); first | with_reducible apply fg_nx | with_reducible apply fg_ct | with_reducible exact fg_bk | with_reducible exact fg_rt | exact fg_rt) | (focus (with_reducible show forGo _ _ _ _ = _); first | with_reducible exact f_nil | with_reducible apply f_cons) | (focus (with_reducible show _ ≤ sizeLine); first | exact sz_le rfl | exact sz_leO (by first | omega | (simp; done) | (simp; omega))) | (focus (with_reducible show _ < sizeLine); first | exact sz_lt rfl | exact sz_ltO (by first | omega | (simp; done) | (simp; omega))) | (focus (with_reducible show ixN _ _ = _); first | exact ix0 | rfl) | (focus (with_reducible show -(2 ^ 63) ≤ _ ∧ _ < 2 ^ 63); exact ⟨by omega, by omega⟩) | with_reducible apply r_cmp2z | (focus (with_reducible show List.length _ = _); rfl) | (focus (with_reducible show List.getLast? _ = _); rfl))) rfl
  apply r_fn (F := ⟨1, 5, none, b7⟩) rfl rfl
  · unfold b7
    dsimp only
    repeat (first | exact hN | exact hG _ | exact hM _ _ | exact hO _ _ | (focus (with_reducible show getS _ _ = _); rfl) | (focus (with_reducible show ev _ _ _ _ false _ = _); first | with_reducible apply r_var | with_reducible exact r_lit | with_reducible apply r_op | with_reducible apply r_callE | with_reducible apply r_tup | with_reducible apply r_frz | with_reducible apply r_and | with_reducible apply r_or | with_reducible apply r_not | with_reducible apply (r_mop rfl) | with_reducible apply r_mopB | with_reducible apply r_lst | with_reducible apply r_mv | with_reducible apply r_sh | with_reducible apply r_glob | with_reducible apply r_cmp2 | with_reducible apply r_comp | with_reducible apply r_ite | with_reducible apply r_bw | with_reducible apply r_meth | with_reducible apply r_new | with_reducible apply r_pop | with_reducible apply r_popAt | with_reducible exact r_dct | with_reducible exact r_dctT | with_reducible apply r_dctOf) | (focus (with_reducible show ev _ _ _ _ true _ = _); first | with_reducible apply t_op | with_reducible apply t_call | with_reducible apply r_and | with_reducible apply r_or | with_reducible apply r_not | with_reducible apply t_var | with_reducible apply t_bw | with_reducible apply r_cmp2 | with_reducible apply t_mop | with_reducible apply t_meth | with_reducible apply t_lit | with_reducible apply r_comp) | (focus (with_reducible show evO _ _ _ _ _ = _); first | with_reducible apply (o_cons rfl) | with_reducible exact o_nil | with_reducible apply o_bw | rfl) | (focus (with_reducible show prim _ _ = _); first | (focus (with_reducible show prim .mod _ = _); exact p_mod (by omega)) | (focus (with_reducible show prim .fdiv _ = _); exact p_fdiv ⟨by omega, by omega⟩) | (focus (with_reducible show prim .mul _ = _); first | exact p_mul2 ⟨by omega, by omega⟩ | exact p_mul1 ⟨by omega, by omega⟩) | exact hp | exact p1 | rfl) | (focus (with_reducible show O.frz _ = _); rfl) | (focus (with_reducible show truth _ = _); rfl) | (focus (with_reducible show evV _ _ _ _ _ = _); first | with_reducible apply v_cons | with_reducible exact v_nil | rfl) | (focus (with_reducible show evS _ _ _ _ _ _ = _); first | with_reducible apply s_asg | with_reducible apply s_ite | with_reducible apply s_ret | with_reducible apply s_for | with_reducible apply s_app | with_reducible apply s_setI | with_reducible apply s_expr | with_reducible apply s_unp | with_reducible apply s_aug | with_reducible apply s_while | with_reducible apply s_ext | with_reducible apply s_rev | with_reducible exact s_retN | with_reducible exact s_pass | with_reducible exact s_brk | with_reducible exact s_cont) | (focus (with_reducible show evSs _ _ _ _ _ _ = _); first | with_reducible apply ss_cons | with_reducible exact ss_nil | rfl) | (focus (with_reducible show flK _ _ _ = _); first | with_reducible apply fl_nx | with_reducible exact fl_rt | with_reducible exact fl_bk | with_reducible exact fl_ct | exact fl_rt) | (focus (with_reducible show evA _ _ _ _ _ = _); first | with_reducible apply (a_cons rfl) | with_reducible apply a_rf | with_reducible exact a_nil | with_reducible apply a_fr | rfl) | (focus (with_reducible show takeA _ _ _ = _); rfl) | (focus (with_reducible show giveA _ _ _ = _); rfl) | ((with_reducible apply cond_t); focus (first | rfl | assumption | (simp [*]; done))) | ((with_reducible apply cond_f); focus (first | rfl | assumption | (simp [*]; done))) | (focus (with_reducible show iterD .plain _ = _); exact iter_S r) | (focus (with_reducible show compGo _ _ _ = _); exact hc _ _) | (focus (with_reducible show _ ≤ sizeLine); exact sz_leO (by simp; simp at hz; omega)) | (focus (with_reducible show rcv _ _ = _); rfl) | (focus (with_reducible show iterD _ _ = _); rfl) | (focus (with_reducible show plainS _ _ = _); rfl) | (focus (with_reducible show bindT _ _ _ = _); rfl) | (focus (with_reducible show setO _ _ _ _ = _); rfl) | (focus (with_reducible show getElem? _ _ = _); rfl) | (focus (with_reducible show some _ = some _); rfl) | (focus (with_reducible show fgK _ _ _ = _); first | with_reducible apply fg_nx | with_reducible apply fg_ct | with_reducible exact fg_bk | with_reducible exact fg_rt | exact fg_rt) | (focus (with_reducible show forGo _ _ _ _ = _); first | with_reducible exact f_nil | with_reducible apply f_cons) | (focus (with_reducible show _ ≤ sizeLine); first | exact sz_le rfl | exact sz_leO (by first | omega | (simp; done) | (simp; omega))) | (focus (with_reducible show _ < sizeLine); first | exact sz_lt rfl | exact sz_ltO (by first | omega | (simp; done) | (simp; omega))) | (focus (with_reducible show ixN _ _ = _); first | exact ix0 | rfl) | (focus (with_reducible show -(2 ^ 63) ≤ _ ∧ _ < 2 ^ 63); exact ⟨by omega, by omega⟩) | with_reducible apply r_cmp2z | (focus (with_reducible show List.length _ = _); rfl) | (focus (with_reducible show List.getLast? _ = _); rfl))
  · rfl
theorem due_ok (m : Nat) (hm : 2 ≤ m) (l : List Nat) (hl : l.length ≤ 1000) (ha : Asc l) : evF B m 7 [.val (.str (mkS l))] = some (.lst [.bl (nameB l), .bl (markB l), .bl (openB l)], [some (.val (.str (mkS l)))]) := by
  obtain ⟨m, rfl⟩ : ∃ k, m = k + 1 := ⟨m - 1, by omega⟩
  cases l with
  | nil =>
    have h := due_of m (by omega) [] [] true true (by simp) (by intro c hc; cases hc) (by simp) (by intro c hc; cases hc) (by have := p_cutl (l := []) (j := 1) (by simp); simpa [cutL] using this) [] (by simp) (by intro c hc; cases hc) (by have := p_cuth (l := []) (j := 1) (by simp); simpa [cutL] using this) (by kernel_rfl)
    exact h
  | cons c r =>
    have h := due_of m (by omega) (c :: r) r (up c) true hl ha (by simp at hl; omega) (fun x hx => ha x (by simp [hx])) (by have := p_cutl (l := c :: r) (j := 1) hl; rw [cut1] at this; exact this) [c] (by simp) (fun x hx => ha x (by simp at hx; simp [hx])) (by have := p_cuth (l := c :: r) (j := 1) hl; rw [cut0] at this; exact this) p_in1'
    have e1 : ([c] : List Nat).all lw = lw c := by simp
    rw [e1] at h
    exact h
theorem told_ok (m : Nat) (hm : 3 ≤ m) (l : List Nat) (hl : l.length ≤ 1000) : evF B m 6 [.val (.str (mkS l))] = some (.val (tri (nameB l) (markB l) (openB l)), [some (.val (.str (mkS l)))]) := by
  obtain ⟨m, rfl⟩ : ∃ k, m = k + 1 := ⟨m - 1, by omega⟩
  exact told_by m (name_ok m (by omega) l hl) (mark_ok m (by omega) l hl) (open_ok m (by omega) l hl)
theorem p_tri (a b c : Bool) : prim .ne [tri a b c, tri a b c] = some (.val (.bl false)) := by
  cases a <;> cases b <;> cases c <;> rfl

/-! ### words that are drawn -/
def Wd (l : List Nat) : Prop := l ≠ [] ∧ l.length ≤ 10 ∧ (∀ c ∈ l, blk c = false) ∧ Asc l
def wdB (l : List Nat) : Bool := !l.isEmpty && decide (l.length ≤ 10) && l.all fun c => !blk c && decide (c < 1114112)
theorem wd_of {l : List Nat} (h : wdB l = true) : Wd l := by
  unfold wdB at h
  simp only [Bool.and_eq_true, decide_eq_true_eq, List.all_eq_true, Bool.not_eq_true'] at h
  exact ⟨fun e => by subst e; simp at h, h.1.2, fun c hc => (h.2 c hc).1, fun c hc => (h.2 c hc).2⟩
theorem wd_app {a b : List Nat} (ha : Wd a) (hb : (∀ c ∈ b, blk c = false) ∧ Asc b) (hl : a.length + b.length ≤ 10) : Wd (a ++ b) :=
  ⟨fun e => ha.1 (List.append_eq_nil_iff.mp e).1, by simp; omega, fun c hc => (List.mem_append.mp hc).elim (ha.2.2.1 c) (hb.1 c), fun c hc => (List.mem_append.mp hc).elim (ha.2.2.2 c) (hb.2 c)⟩
theorem lw_free {l : List Nat} (h : Lw l) : (∀ c ∈ l, blk c = false) ∧ Asc l := ⟨fun c hc => by have := h c hc; unfold blk; simp; omega, fun c hc => by have := h c hc; omega⟩
def drawn3 : List Str := ["->", "=>", "{", "}", "(", ")", "|", ",", ":", "=", "<", ">", "[", "]", "?", "0", "7", "00", "a", "ab", "A", "Aa", "AB", "a1", "a12345", "a1234", "1a"]
def drawnL : List Str := bar1 ++ (bar2 ++ drawn3)
theorem drawnL_wd : ∀ s ∈ drawnL, Wd s.cps.toList := by
  have : (drawnL.all fun s => wdB s.cps.toList) = true := by decide +kernel
  exact fun s hs => wd_of (List.all_eq_true.mp this s hs)
theorem p_dr1 : prim .add [.str "fun let group and in if get put match told yes no num truth ", .str "module use shape class house for when is end out shown hidden "] = some (.val (.str "fun let group and in if get put match told yes no num truth module use shape class house for when is end out shown hidden ")) := by kernel_rfl
theorem p_dr2 : prim .add [.str "fun let group and in if get put match told yes no num truth module use shape class house for when is end out shown hidden ", .str "-> => { } ( ) | , : = < > [ ] ? 0 7 00 a ab A Aa AB a1 a12345 a1234 1a"] = some (.val (.str "fun let group and in if get put match told yes no num truth module use shape class house for when is end out shown hidden -> => { } ( ) | , : = < > [ ] ? 0 7 00 a ab A Aa AB a1 a12345 a1234 1a")) := by kernel_rfl
theorem p_dr3 : prim .split [.str "fun let group and in if get put match told yes no num truth module use shape class house for when is end out shown hidden -> => { } ( ) | , : = < > [ ] ? 0 7 00 a ab A Aa AB a1 a12345 a1234 1a", .str " "] = some (.lst (drawnL.map .str)) := by kernel_rfl
theorem p_dr4 : prim .len [.lst (drawnL.map .str)] = some (.val (.int 53)) := rfl
def sgnS : Str := "!\"#$&'()*+,-./0123456789:;<=>?\x40[\\]^_`{|}~abcdefghijklmnopqrstuvwxyzABCDEFGHIJKLMNOPQRSTUVWXYZ"
theorem p_sg1 : prim .upper [.str "abcdefghijklmnopqrstuvwxyz"] = some (.val (.str "ABCDEFGHIJKLMNOPQRSTUVWXYZ")) := by kernel_rfl
theorem p_sg2 : prim .add [.str "!\"#$&'()*+,-./0123456789:;<=>?\x40[\\]^_`{|}~", .str "abcdefghijklmnopqrstuvwxyz"] = some (.val (.str "!\"#$&'()*+,-./0123456789:;<=>?\x40[\\]^_`{|}~abcdefghijklmnopqrstuvwxyz")) := by kernel_rfl
theorem p_sg3 : prim .add [.str "!\"#$&'()*+,-./0123456789:;<=>?\x40[\\]^_`{|}~abcdefghijklmnopqrstuvwxyz", .str "ABCDEFGHIJKLMNOPQRSTUVWXYZ"] = some (.val (.str sgnS)) := by kernel_rfl
theorem sgn_len : sgnS.cps.toList.length = 93 := by decide +kernel
theorem sgn_free : ∀ c ∈ sgnS.cps.toList, blk c = false ∧ c < 1114112 := by decide +kernel
theorem signs_ok (m : Nat) : ∃ ps, evF B (m + 1) 11 [] = some (.val (.str sgnS), ps) := by
  refine ⟨[], ?_⟩
  have h1 : ev B.G B.CL (evF B m) (.op .add [.lit (.str "!\"#$&'()*+,-./0123456789:;<=>?\x40[\\]^_`{|}~"), .var 0]) false [some (.val (.str "abcdefghijklmnopqrstuvwxyz"))] = some (.val (.str "!\"#$&'()*+,-./0123456789:;<=>?\x40[\\]^_`{|}~abcdefghijklmnopqrstuvwxyz"), [some (.val (.str "abcdefghijklmnopqrstuvwxyz"))]) := by repeat (first | (focus (with_reducible show getS _ _ = _); rfl) | (focus (with_reducible show ev _ _ _ _ false _ = _); first | with_reducible apply r_var | with_reducible exact r_lit | with_reducible apply r_op | with_reducible apply r_callE | with_reducible apply r_tup | with_reducible apply r_frz | with_reducible apply r_and | with_reducible apply r_or | with_reducible apply r_not | with_reducible apply (r_mop rfl) | with_reducible apply r_mopB | with_reducible apply r_lst | with_reducible apply r_mv | with_reducible apply r_sh | with_reducible apply r_glob | with_reducible apply r_cmp2 | with_reducible apply r_ite | with_reducible apply r_bw | with_reducible apply r_meth | with_reducible apply r_new | with_reducible apply r_pop | with_reducible apply r_popAt | with_reducible exact r_dct | with_reducible exact r_dctT | with_reducible apply r_dctOf) | (focus (with_reducible show ev _ _ _ _ true _ = _); first | with_reducible apply t_op | with_reducible apply t_call | with_reducible apply r_and | with_reducible apply r_or | with_reducible apply r_not | with_reducible apply t_var | with_reducible apply t_bw | with_reducible apply r_cmp2 | with_reducible apply t_mop | with_reducible apply t_meth | with_reducible apply t_lit) | (focus (with_reducible show evO _ _ _ _ _ = _); first | with_reducible apply (o_cons rfl) | with_reducible exact o_nil | with_reducible apply o_bw | rfl) | (focus (with_reducible show prim _ _ = _); first | (focus (with_reducible show prim .mod _ = _); exact p_mod (by omega)) | (focus (with_reducible show prim .fdiv _ = _); exact p_fdiv ⟨by omega, by omega⟩) | (focus (with_reducible show prim .mul _ = _); first | exact p_mul2 ⟨by omega, by omega⟩ | exact p_mul1 ⟨by omega, by omega⟩) | exact p_sg2 | rfl) | (focus (with_reducible show O.frz _ = _); rfl) | (focus (with_reducible show truth _ = _); rfl) | (focus (with_reducible show evV _ _ _ _ _ = _); first | with_reducible apply v_cons | with_reducible exact v_nil | rfl) | (focus (with_reducible show evS _ _ _ _ _ _ = _); first | with_reducible apply s_asg | with_reducible apply s_ite | with_reducible apply s_ret | with_reducible apply s_for | with_reducible apply s_app | with_reducible apply s_setI | with_reducible apply s_expr | with_reducible apply s_unp | with_reducible apply s_aug | with_reducible apply s_while | with_reducible apply s_ext | with_reducible apply s_rev | with_reducible exact s_retN | with_reducible exact s_pass | with_reducible exact s_brk | with_reducible exact s_cont) | (focus (with_reducible show evSs _ _ _ _ _ _ = _); first | with_reducible apply ss_cons | with_reducible exact ss_nil | rfl) | (focus (with_reducible show flK _ _ _ = _); first | with_reducible apply fl_nx | with_reducible exact fl_rt | with_reducible exact fl_bk | with_reducible exact fl_ct | exact fl_rt) | (focus (with_reducible show evA _ _ _ _ _ = _); first | with_reducible apply (a_cons rfl) | with_reducible apply a_rf | with_reducible exact a_nil | with_reducible apply a_fr | rfl) | (focus (with_reducible show takeA _ _ _ = _); rfl) | (focus (with_reducible show giveA _ _ _ = _); rfl) | ((with_reducible apply cond_t); focus (first | rfl | assumption | (simp [*]; done))) | ((with_reducible apply cond_f); focus (first | rfl | assumption | (simp [*]; done))) | (focus (with_reducible show rcv _ _ = _); rfl) | (focus (with_reducible show iterD _ _ = _); rfl) | (focus (with_reducible show plainS _ _ = _); rfl) | (focus (with_reducible show bindT _ _ _ = _); rfl) | (focus (with_reducible show setO _ _ _ _ = _); rfl) | (focus (with_reducible show getElem? _ _ = _); rfl) | (focus (with_reducible show some _ = some _); rfl) | (focus (with_reducible show fgK _ _ _ = _); first | with_reducible apply fg_nx | with_reducible apply fg_ct | with_reducible exact fg_bk | with_reducible exact fg_rt | exact fg_rt) | (focus (with_reducible show forGo _ _ _ _ = _); first | with_reducible exact f_nil | with_reducible apply f_cons) | (focus (with_reducible show _ ≤ sizeLine); first | exact sz_le rfl | exact sz_leO (by first | omega | (simp; done) | (simp; omega))) | (focus (with_reducible show _ < sizeLine); first | exact sz_lt rfl | exact sz_ltO (by first | omega | (simp; done) | (simp; omega))) | (focus (with_reducible show ixN _ _ = _); first | exact ix0 | rfl) | (focus (with_reducible show -(2 ^ 63) ≤ _ ∧ _ < 2 ^ 63); exact ⟨by omega, by omega⟩) | with_reducible apply r_cmp2z | (focus (with_reducible show List.length _ = _); rfl) | (focus (with_reducible show List.getLast? _ = _); rfl))
  apply r_fn (F := ⟨0, 1, none, b11⟩) rfl rfl
  · unfold b11
    dsimp only
    repeat (first | (focus (with_reducible show ev _ _ _ (EV.E.op EV.Pr.add [EV.E.lit _, EV.E.var 0]) false _ = _); exact h1) | (focus (with_reducible show getS _ _ = _); rfl) | (focus (with_reducible show ev _ _ _ _ false _ = _); first | with_reducible apply r_var | with_reducible exact r_lit | with_reducible apply r_op | with_reducible apply r_callE | with_reducible apply r_tup | with_reducible apply r_frz | with_reducible apply r_and | with_reducible apply r_or | with_reducible apply r_not | with_reducible apply (r_mop rfl) | with_reducible apply r_mopB | with_reducible apply r_lst | with_reducible apply r_mv | with_reducible apply r_sh | with_reducible apply r_glob | with_reducible apply r_cmp2 | with_reducible apply r_ite | with_reducible apply r_bw | with_reducible apply r_meth | with_reducible apply r_new | with_reducible apply r_pop | with_reducible apply r_popAt | with_reducible exact r_dct | with_reducible exact r_dctT | with_reducible apply r_dctOf) | (focus (with_reducible show ev _ _ _ _ true _ = _); first | with_reducible apply t_op | with_reducible apply t_call | with_reducible apply r_and | with_reducible apply r_or | with_reducible apply r_not | with_reducible apply t_var | with_reducible apply t_bw | with_reducible apply r_cmp2 | with_reducible apply t_mop | with_reducible apply t_meth | with_reducible apply t_lit) | (focus (with_reducible show evO _ _ _ _ _ = _); first | with_reducible apply (o_cons rfl) | with_reducible exact o_nil | with_reducible apply o_bw | rfl) | (focus (with_reducible show prim _ _ = _); first | (focus (with_reducible show prim .mod _ = _); exact p_mod (by omega)) | (focus (with_reducible show prim .fdiv _ = _); exact p_fdiv ⟨by omega, by omega⟩) | (focus (with_reducible show prim .mul _ = _); first | exact p_mul2 ⟨by omega, by omega⟩ | exact p_mul1 ⟨by omega, by omega⟩) | (focus (with_reducible show prim .upper _ = _); exact p_sg1) | exact p_sg3 | rfl) | (focus (with_reducible show O.frz _ = _); rfl) | (focus (with_reducible show truth _ = _); rfl) | (focus (with_reducible show evV _ _ _ _ _ = _); first | with_reducible apply v_cons | with_reducible exact v_nil | rfl) | (focus (with_reducible show evS _ _ _ _ _ _ = _); first | with_reducible apply s_asg | with_reducible apply s_ite | with_reducible apply s_ret | with_reducible apply s_for | with_reducible apply s_app | with_reducible apply s_setI | with_reducible apply s_expr | with_reducible apply s_unp | with_reducible apply s_aug | with_reducible apply s_while | with_reducible apply s_ext | with_reducible apply s_rev | with_reducible exact s_retN | with_reducible exact s_pass | with_reducible exact s_brk | with_reducible exact s_cont) | (focus (with_reducible show evSs _ _ _ _ _ _ = _); first | with_reducible apply ss_cons | with_reducible exact ss_nil | rfl) | (focus (with_reducible show flK _ _ _ = _); first | with_reducible apply fl_nx | with_reducible exact fl_rt | with_reducible exact fl_bk | with_reducible exact fl_ct | exact fl_rt) | (focus (with_reducible show evA _ _ _ _ _ = _); first | with_reducible apply (a_cons rfl) | with_reducible apply a_rf | with_reducible exact a_nil | with_reducible apply a_fr | rfl) | (focus (with_reducible show takeA _ _ _ = _); rfl) | (focus (with_reducible show giveA _ _ _ = _); rfl) | ((with_reducible apply cond_t); focus (first | rfl | assumption | (simp [*]; done))) | ((with_reducible apply cond_f); focus (first | rfl | assumption | (simp [*]; done))) | (focus (with_reducible show rcv _ _ = _); rfl) | (focus (with_reducible show iterD _ _ = _); rfl) | (focus (with_reducible show plainS _ _ = _); rfl) | (focus (with_reducible show bindT _ _ _ = _); rfl) | (focus (with_reducible show setO _ _ _ _ = _); rfl) | (focus (with_reducible show getElem? _ _ = _); rfl) | (focus (with_reducible show some _ = some _); rfl) | (focus (with_reducible show fgK _ _ _ = _); first | with_reducible apply fg_nx | with_reducible apply fg_ct | with_reducible exact fg_bk | with_reducible exact fg_rt | exact fg_rt) | (focus (with_reducible show forGo _ _ _ _ = _); first | with_reducible exact f_nil | with_reducible apply f_cons) | (focus (with_reducible show _ ≤ sizeLine); first | exact sz_le rfl | exact sz_leO (by first | omega | (simp; done) | (simp; omega))) | (focus (with_reducible show _ < sizeLine); first | exact sz_lt rfl | exact sz_ltO (by first | omega | (simp; done) | (simp; omega))) | (focus (with_reducible show ixN _ _ = _); first | exact ix0 | rfl) | (focus (with_reducible show -(2 ^ 63) ≤ _ ∧ _ < 2 ^ 63); exact ⟨by omega, by omega⟩) | with_reducible apply r_cmp2z | (focus (with_reducible show List.length _ = _); rfl) | (focus (with_reducible show List.getLast? _ = _); rfl))
  · rfl
theorem up_one : ∀ j : Nat, j < 26 → PySem.Unicode.upperOf (97 + j) = [65 + j] := by decide +kernel
theorem mapIdx_const {α β : Type} (g : α → β) (l : List α) : l.mapIdx (fun _ c => g c) = l.map g := by
  refine List.ext_getElem? fun i => ?_
  simp [List.getElem?_mapIdx]
theorem upper_lw {l : List Nat} (h : Lw l) : Txt.upper (mkS l) = mkS (l.map fun c => c - 32) := by
  unfold Txt.upper mkS
  congr 1
  unfold PySem.placed
  apply Array.toList_inj.mp
  simp only [Array.toList_flatten, Array.toList_mapIdx, mapIdx_const, List.map_map]
  induction l with
  | nil => rfl
  | cons c l ih =>
    have hc := h c (by simp)
    have e := up_one (c - 97) (by omega)
    rw [show 97 + (c - 97) = c by omega, show 65 + (c - 97) = c - 32 by omega] at e
    have := ih fun x hx => h x (by simp [hx])
    simp at this ⊢
    rw [e]
    simpa using this

theorem p_str5 {v : Int} (h : 0 ≤ v ∧ v < 100000) : prim .str [.int v] = some (.val (.str (mkS (Str.ofString (toString v)).cps.toList))) ∧ (Str.ofString (toString v)).cps.toList.length ≤ 6 := by
  constructor
  · rw [mkS_of]
    show (if _ then _ else _) = _
    rw [if_pos]
    by_cases h0 : v.natAbs = 0
    · rw [h0]; decide
    · exact (Nat.log2_lt h0).mpr (Nat.lt_of_lt_of_le (show v.natAbs < 2 ^ 17 by omega) (Nat.pow_le_pow_right (by decide) (by decide)))
  · have := PySem.int_text_length_le10 (a := v) (k := 5) (by decide) (by omega)
    have h2 := PySem.ofString_length (toString v)
    rw [Array.length_toList]
    exact (show (Str.ofString (toString v)).length ≤ 6 by omega)
theorem int_free (v : Int) : (∀ c ∈ (Str.ofString (toString v)).cps.toList, blk c = false) ∧ Asc (Str.ofString (toString v)).cps.toList := by
  constructor
  · intro c hc
    cases h : blk c with
    | false => rfl
    | true =>
      exfalso
      unfold blk at h
      simp at h
      rcases h with rfl | rfl
      · exact PyProof.Rows.int_text_free' 32 ⟨by decide, by decide⟩ v hc
      · exact PyProof.Rows.int_text_free' 10 ⟨by decide, by decide⟩ v hc
  · intro c hc
    by_cases h : c < 1114112
    · exact h
    · exact absurd hc (PyProof.Rows.int_text_free' c ⟨by omega, by omega⟩ v)
theorem p_pow5 : prim .pow [.int 10, .int 5] = some (.val (.int 100000)) := by kernel_rfl
theorem fr_app {a b : List Nat} (ha : (∀ c ∈ a, blk c = false) ∧ Asc a) (hb : (∀ c ∈ b, blk c = false) ∧ Asc b) : (∀ c ∈ a ++ b, blk c = false) ∧ Asc (a ++ b) := by
  constructor
  · intro c hc
    exact (List.mem_append.mp hc).elim (ha.1 c) (hb.1 c)
  · intro c hc
    exact (List.mem_append.mp hc).elim (ha.2 c) (hb.2 c)
theorem fr_one {c : Nat} (h : blk c = false ∧ c < 1114112) : (∀ x ∈ [c], blk x = false) ∧ Asc [c] := by
  constructor
  · intro x hx; simp at hx; subst hx; exact h.1
  · intro x hx; simp at hx; subst hx; exact h.2
theorem lw_nil : Lw [] := by intro c hc; cases hc
theorem p_x0 {k : Int} (h : k = 0 ∨ k = 1) : ∃ x, prim .mul [.str "x", .int k] = some (.val (.str (mkS x))) ∧ Lw x ∧ x.length ≤ 1 := by
  rcases h with rfl | rfl
  · exact ⟨[], rfl, lw_nil, by simp⟩
  · exact ⟨[120], rfl, lw_one (by omega), by simp⟩
theorem p_ab (k : Int) : prim (.slc false true) [.str "ab", .int k] = some (.val (.str (mkS (cutL [97, 98] none (some k))))) := p_cuth (l := [97, 98]) (by simp)
theorem dr_pre (m : Nat) (i : Int) : evSs B.G B.CL B.W (evF B m) (b3.take 5) [some (.val (.int i)), none, none, none, none] = some (.nx, [some (.val (.int i)), some (.val (.lst (drawnL.map .str))), some (.val (.int (i / 8))), none, none]) := by
  unfold b3
  dsimp only [List.take]
  repeat (first | (focus (with_reducible show getS _ _ = _); rfl) | (focus (with_reducible show ev _ _ _ _ false _ = _); first | with_reducible apply r_var | with_reducible exact r_lit | with_reducible apply r_op | with_reducible apply r_callE | with_reducible apply r_tup | with_reducible apply r_frz | with_reducible apply r_and | with_reducible apply r_or | with_reducible apply r_not | with_reducible apply (r_mop rfl) | with_reducible apply r_mopB | with_reducible apply r_lst | with_reducible apply r_mv | with_reducible apply r_sh | with_reducible apply r_glob | with_reducible apply r_cmp2 | with_reducible apply r_ite | with_reducible apply r_bw | with_reducible apply r_meth | with_reducible apply r_new | with_reducible apply r_pop | with_reducible apply r_popAt | with_reducible exact r_dct | with_reducible exact r_dctT | with_reducible apply r_dctOf) | (focus (with_reducible show ev _ _ _ _ true _ = _); first | with_reducible apply t_op | with_reducible apply t_call | with_reducible apply r_and | with_reducible apply r_or | with_reducible apply r_not | with_reducible apply t_var | with_reducible apply t_bw | with_reducible apply r_cmp2 | with_reducible apply t_mop | with_reducible apply t_meth | with_reducible apply t_lit) | (focus (with_reducible show evO _ _ _ _ _ = _); first | with_reducible apply (o_cons rfl) | with_reducible exact o_nil | with_reducible apply o_bw | rfl) | (focus (with_reducible show prim _ _ = _); first | (focus (with_reducible show prim .mod _ = _); exact p_mod (by omega)) | (focus (with_reducible show prim .fdiv _ = _); exact p_fdiv ⟨by omega, by omega⟩) | (focus (with_reducible show prim .mul _ = _); first | exact p_mul2 ⟨by omega, by omega⟩ | exact p_mul1 ⟨by omega, by omega⟩) | (focus (with_reducible show prim .add _ = _); show prim .add [EV.D.str _, EV.D.str _] = _; first | with_reducible exact p_dr1 | with_reducible exact p_dr2) | (focus (with_reducible show prim .split _ = _); exact p_dr3) | rfl) | (focus (with_reducible show O.frz _ = _); rfl) | (focus (with_reducible show truth _ = _); rfl) | (focus (with_reducible show evV _ _ _ _ _ = _); first | with_reducible apply v_cons | with_reducible exact v_nil | rfl) | (focus (with_reducible show evS _ _ _ _ _ _ = _); first | with_reducible apply s_asg | with_reducible apply s_ite | with_reducible apply s_ret | with_reducible apply s_for | with_reducible apply s_app | with_reducible apply s_setI | with_reducible apply s_expr | with_reducible apply s_unp | with_reducible apply s_aug | with_reducible apply s_while | with_reducible apply s_ext | with_reducible apply s_rev | with_reducible exact s_retN | with_reducible exact s_pass | with_reducible exact s_brk | with_reducible exact s_cont) | (focus (with_reducible show evSs _ _ _ _ _ _ = _); first | with_reducible apply ss_cons | with_reducible exact ss_nil | rfl) | (focus (with_reducible show flK _ _ _ = _); first | with_reducible apply fl_nx | with_reducible exact fl_rt | with_reducible exact fl_bk | with_reducible exact fl_ct | exact fl_rt) | (focus (with_reducible show evA _ _ _ _ _ = _); first | with_reducible apply (a_cons rfl) | with_reducible apply a_rf | with_reducible exact a_nil | with_reducible apply a_fr | rfl) | (focus (with_reducible show takeA _ _ _ = _); rfl) | (focus (with_reducible show giveA _ _ _ = _); rfl) | ((with_reducible apply cond_t); focus (first | rfl | assumption | (simp [*]; done))) | ((with_reducible apply cond_f); focus (first | rfl | assumption | (simp [*]; done))) | (focus (with_reducible show rcv _ _ = _); rfl) | (focus (with_reducible show iterD _ _ = _); rfl) | (focus (with_reducible show plainS _ _ = _); rfl) | (focus (with_reducible show bindT _ _ _ = _); rfl) | (focus (with_reducible show setO _ _ _ _ = _); rfl) | (focus (with_reducible show getElem? _ _ = _); rfl) | (focus (with_reducible show some _ = some _); rfl) | (focus (with_reducible show fgK _ _ _ = _); first | with_reducible apply fg_nx | with_reducible apply fg_ct | with_reducible exact fg_bk | with_reducible exact fg_rt | exact fg_rt) | (focus (with_reducible show forGo _ _ _ _ = _); first | with_reducible exact f_nil | with_reducible apply f_cons) | (focus (with_reducible show _ ≤ sizeLine); first | exact sz_le rfl | exact sz_leO (by first | omega | (simp; done) | (simp; omega))) | (focus (with_reducible show _ < sizeLine); first | exact sz_lt rfl | exact sz_ltO (by first | omega | (simp; done) | (simp; omega))) | (focus (with_reducible show ixN _ _ = _); first | exact ix0 | rfl) | (focus (with_reducible show -(2 ^ 63) ≤ _ ∧ _ < 2 ^ 63); exact ⟨by omega, by omega⟩) | with_reducible apply r_cmp2z | (focus (with_reducible show List.length _ = _); rfl) | (focus (with_reducible show List.getLast? _ = _); rfl))
theorem drawn_ok (m : Nat) (hm : 2 ≤ m) (i : Int) : ∃ l, evF B m 3 [.val (.int i)] = some (.val (.str (mkS l)), [some (.val (.int i))]) ∧ Wd l := by
  obtain ⟨m, rfl⟩ : ∃ k, m = k + 1 := ⟨m - 1, by omega⟩
  have go : ∀ {l : List Nat} {ρ : EV.Env}, evSs B.G B.CL B.W (evF B m) (b3.drop 5) [some (.val (.int i)), some (.val (.lst (drawnL.map .str))), some (.val (.int (i / 8))), none, none] = some (.rt (.val (.str (mkS l))), ρ) → headS ρ 1 = [some (.val (.int i))] →
      evF B (m + 1) 3 [.val (.int i)] = some (.val (.str (mkS l)), [some (.val (.int i))]) := fun {l ρ} h h2 => by
    apply r_fn (F := ⟨1, 5, none, b3⟩) rfl rfl
    · exact ss_app (as := b3.take 5) (bs := b3.drop 5) (dr_pre m i) h
    · exact h2
  have hn : 0 ≤ i % 8 ∧ i % 8 < 8 := by omega
  by_cases h1 : i % 8 < 3
  · obtain ⟨d, hd, hmm⟩ := atI_of (xs := drawnL.map EV.D.str) (i := i / 8 % 53) (by omega) (by have : (drawnL.map EV.D.str).length = 53 := rfl; omega)
    obtain ⟨s, hs, rfl⟩ := List.mem_map.mp hmm
    have hix : prim .idx [.lst (drawnL.map .str), .int (i / 8 % 53)] = some (.val (.str (mkS s.cps.toList))) := by rw [mkS_of]; exact p_ixL hd
    refine ⟨s.cps.toList, ?_, drawnL_wd s hs⟩
    · apply go
      · unfold b3
        dsimp only [List.drop]
        repeat (first | (focus (with_reducible show getS _ _ = _); rfl) | (focus (with_reducible show ev _ _ _ _ false _ = _); first | with_reducible apply r_var | with_reducible exact r_lit | with_reducible apply r_op | with_reducible apply r_callE | with_reducible apply r_tup | with_reducible apply r_frz | with_reducible apply r_and | with_reducible apply r_or | with_reducible apply r_not | with_reducible apply (r_mop rfl) | with_reducible apply r_mopB | with_reducible apply r_lst | with_reducible apply r_mv | with_reducible apply r_sh | with_reducible apply r_glob | with_reducible apply r_cmp2 | with_reducible apply r_ite | with_reducible apply r_bw | with_reducible apply r_meth | with_reducible apply r_new | with_reducible apply r_pop | with_reducible apply r_popAt | with_reducible exact r_dct | with_reducible exact r_dctT | with_reducible apply r_dctOf) | (focus (with_reducible show ev _ _ _ _ true _ = _); first | with_reducible apply t_op | with_reducible apply t_call | with_reducible apply r_and | with_reducible apply r_or | with_reducible apply r_not | with_reducible apply t_var | with_reducible apply t_bw | with_reducible apply r_cmp2 | with_reducible apply t_mop | with_reducible apply t_meth | with_reducible apply t_lit) | (focus (with_reducible show evO _ _ _ _ _ = _); first | with_reducible apply (o_cons rfl) | with_reducible exact o_nil | with_reducible apply o_bw | rfl) | (focus (with_reducible show prim _ _ = _); first | (focus (with_reducible show prim .mod _ = _); exact p_mod (by omega)) | (focus (with_reducible show prim .fdiv _ = _); exact p_fdiv ⟨by omega, by omega⟩) | (focus (with_reducible show prim .mul _ = _); first | exact p_mul2 ⟨by omega, by omega⟩ | exact p_mul1 ⟨by omega, by omega⟩) | (focus (with_reducible show prim .len _ = _); exact p_dr4) | (focus (with_reducible show prim .idx _ = _); exact hix) | rfl) | (focus (with_reducible show O.frz _ = _); rfl) | (focus (with_reducible show truth _ = _); rfl) | (focus (with_reducible show evV _ _ _ _ _ = _); first | with_reducible apply v_cons | with_reducible exact v_nil | rfl) | (focus (with_reducible show evS _ _ _ _ _ _ = _); first | with_reducible apply s_asg | with_reducible apply s_ite | with_reducible apply s_ret | with_reducible apply s_for | with_reducible apply s_app | with_reducible apply s_setI | with_reducible apply s_expr | with_reducible apply s_unp | with_reducible apply s_aug | with_reducible apply s_while | with_reducible apply s_ext | with_reducible apply s_rev | with_reducible exact s_retN | with_reducible exact s_pass | with_reducible exact s_brk | with_reducible exact s_cont) | (focus (with_reducible show evSs _ _ _ _ _ _ = _); first | with_reducible apply ss_cons | with_reducible exact ss_nil | rfl) | (focus (with_reducible show flK _ _ _ = _); first | with_reducible apply fl_nx | with_reducible exact fl_rt | with_reducible exact fl_bk | with_reducible exact fl_ct | exact fl_rt) | (focus (with_reducible show evA _ _ _ _ _ = _); first | with_reducible apply (a_cons rfl) | with_reducible apply a_rf | with_reducible exact a_nil | with_reducible apply a_fr | rfl) | (focus (with_reducible show takeA _ _ _ = _); rfl) | (focus (with_reducible show giveA _ _ _ = _); rfl) | ((with_reducible apply cond_t); focus (first | rfl | assumption | (simp [*]; done))) | ((with_reducible apply cond_f); focus (first | rfl | assumption | (simp [*]; done))) | (focus (with_reducible show rcv _ _ = _); rfl) | (focus (with_reducible show iterD _ _ = _); rfl) | (focus (with_reducible show plainS _ _ = _); rfl) | (focus (with_reducible show bindT _ _ _ = _); rfl) | (focus (with_reducible show setO _ _ _ _ = _); rfl) | (focus (with_reducible show getElem? _ _ = _); rfl) | (focus (with_reducible show some _ = some _); rfl) | (focus (with_reducible show fgK _ _ _ = _); first | with_reducible apply fg_nx | with_reducible apply fg_ct | with_reducible exact fg_bk | with_reducible exact fg_rt | exact fg_rt) | (focus (with_reducible show forGo _ _ _ _ = _); first | with_reducible exact f_nil | with_reducible apply f_cons) | (focus (with_reducible show _ ≤ sizeLine); first | exact sz_le rfl | exact sz_leO (by first | omega | (simp; done) | (simp; omega))) | (focus (with_reducible show _ < sizeLine); first | exact sz_lt rfl | exact sz_ltO (by first | omega | (simp; done) | (simp; omega))) | (focus (with_reducible show ixN _ _ = _); first | exact ix0 | rfl) | (focus (with_reducible show -(2 ^ 63) ≤ _ ∧ _ < 2 ^ 63); exact ⟨by omega, by omega⟩) | with_reducible apply r_cmp2z | (focus (with_reducible show List.length _ = _); rfl) | (focus (with_reducible show List.getLast? _ = _); rfl))
      · rfl
  · by_cases h2 : i % 8 = 3
    · obtain ⟨w, hw, lwo, hpos, h8⟩ := word_ok m (by omega) (i / 8)
      obtain ⟨x, hx, lx, hx1⟩ := p_x0 (k := i / 8 / 8 % 5 / 4) (by omega)
      match w, hpos, h8, hw, lwo with
      | c :: r, _, h8, hw, lwo =>
        have hc := lwo c (by simp)
        have pu : prim .upper [.str (mkS (c :: r))] = some (.val (.str (mkS ((c - 32) :: r.map fun c => c - 32)))) := by
          show (if _ then _ else _) = _
          rw [if_pos (by rw [mkS_len]; simp at h8 ⊢; omega), upper_lw lwo]; rfl
        have p1 : prim (.slc false true) [.str (mkS ((c - 32) :: r.map fun c => c - 32)), .int 1] = some (.val (.str (mkS [c - 32]))) := by
          have := p_cuth (l := (c - 32) :: r.map fun c => c - 32) (j := 1) (by simp at h8 ⊢; omega)
          rw [cut0] at this; exact this
        have p2 : prim (.slc true false) [.str (mkS (c :: r)), .int 1] = some (.val (.str (mkS r))) := by
          have := p_cutl (l := c :: r) (j := 1) (by simp at h8 ⊢; omega)
          rw [cut1] at this; exact this
        have p3 : prim .add [.str (mkS [c - 32]), .str (mkS r)] = some (.val (.str (mkS ([c - 32] ++ r)))) := p_cat (by simp at h8 ⊢; omega)
        have p4 : prim .add [.str (mkS ([c - 32] ++ r)), .str (mkS x)] = some (.val (.str (mkS ([c - 32] ++ r ++ x)))) := p_cat (by simp at h8 ⊢; omega)
        refine ⟨[c - 32] ++ r ++ x, ?_, ?_⟩
        · apply go
          · unfold b3
            dsimp only [List.drop]
            repeat (first | (focus (with_reducible show getS _ _ = _); rfl) | (focus (with_reducible show ev _ _ _ _ false _ = _); first | with_reducible apply r_var | with_reducible exact r_lit | with_reducible apply r_op | with_reducible apply r_callE | with_reducible apply r_tup | with_reducible apply r_frz | with_reducible apply r_and | with_reducible apply r_or | with_reducible apply r_not | with_reducible apply (r_mop rfl) | with_reducible apply r_mopB | with_reducible apply r_lst | with_reducible apply r_mv | with_reducible apply r_sh | with_reducible apply r_glob | with_reducible apply r_cmp2 | with_reducible apply r_ite | with_reducible apply r_bw | with_reducible apply r_meth | with_reducible apply r_new | with_reducible apply r_pop | with_reducible apply r_popAt | with_reducible exact r_dct | with_reducible exact r_dctT | with_reducible apply r_dctOf) | (focus (with_reducible show ev _ _ _ _ true _ = _); first | with_reducible apply t_op | with_reducible apply t_call | with_reducible apply r_and | with_reducible apply r_or | with_reducible apply r_not | with_reducible apply t_var | with_reducible apply t_bw | with_reducible apply r_cmp2 | with_reducible apply t_mop | with_reducible apply t_meth | with_reducible apply t_lit) | (focus (with_reducible show evO _ _ _ _ _ = _); first | with_reducible apply (o_cons rfl) | with_reducible exact o_nil | with_reducible apply o_bw | rfl) | (focus (with_reducible show prim _ _ = _); first | (focus (with_reducible show prim .mod _ = _); exact p_mod (by omega)) | (focus (with_reducible show prim .fdiv _ = _); exact p_fdiv ⟨by omega, by omega⟩) | (focus (with_reducible show prim .mul _ = _); first | exact p_mul2 ⟨by omega, by omega⟩ | exact p_mul1 ⟨by omega, by omega⟩) | (focus (with_reducible show prim .upper _ = _); exact pu) | (focus (with_reducible show prim (.slc false true) _ = _); exact p1) | (focus (with_reducible show prim (.slc true false) _ = _); exact p2) | (focus (with_reducible show prim .mul _ = _); exact hx) | (focus (with_reducible show prim .add _ = _); first | exact p3 | exact p4) | rfl) | (focus (with_reducible show O.frz _ = _); rfl) | (focus (with_reducible show truth _ = _); rfl) | (focus (with_reducible show evV _ _ _ _ _ = _); first | with_reducible apply v_cons | with_reducible exact v_nil | rfl) | (focus (with_reducible show evS _ _ _ _ _ _ = _); first | with_reducible apply s_asg | with_reducible apply s_ite | with_reducible apply s_ret | with_reducible apply s_for | with_reducible apply s_app | with_reducible apply s_setI | with_reducible apply s_expr | with_reducible apply s_unp | with_reducible apply s_aug | with_reducible apply s_while | with_reducible apply s_ext | with_reducible apply s_rev | with_reducible exact s_retN | with_reducible exact s_pass | with_reducible exact s_brk | with_reducible exact s_cont) | (focus (with_reducible show evSs _ _ _ _ _ _ = _); first | with_reducible apply ss_cons | with_reducible exact ss_nil | rfl) | (focus (with_reducible show flK _ _ _ = _); first | with_reducible apply fl_nx | with_reducible exact fl_rt | with_reducible exact fl_bk | with_reducible exact fl_ct | exact fl_rt) | (focus (with_reducible show evA _ _ _ _ _ = _); first | with_reducible apply (a_cons rfl) | with_reducible apply a_rf | with_reducible exact a_nil | with_reducible apply a_fr | rfl) | (focus (with_reducible show evF _ _ _ _ = _); first | (focus (with_reducible show evF _ _ 10 _ = _);  exact hw)) | (focus (with_reducible show takeA _ _ _ = _); rfl) | (focus (with_reducible show giveA _ _ _ = _); rfl) | ((with_reducible apply cond_t); focus (first | rfl | assumption | (simp [*]; done))) | ((with_reducible apply cond_f); focus (first | rfl | assumption | (simp [*]; done))) | (focus (with_reducible show rcv _ _ = _); rfl) | (focus (with_reducible show iterD _ _ = _); rfl) | (focus (with_reducible show plainS _ _ = _); rfl) | (focus (with_reducible show bindT _ _ _ = _); rfl) | (focus (with_reducible show setO _ _ _ _ = _); rfl) | (focus (with_reducible show getElem? _ _ = _); rfl) | (focus (with_reducible show some _ = some _); rfl) | (focus (with_reducible show fgK _ _ _ = _); first | with_reducible apply fg_nx | with_reducible apply fg_ct | with_reducible exact fg_bk | with_reducible exact fg_rt | exact fg_rt) | (focus (with_reducible show forGo _ _ _ _ = _); first | with_reducible exact f_nil | with_reducible apply f_cons) | (focus (with_reducible show _ ≤ sizeLine); first | exact sz_le rfl | exact sz_leO (by first | omega | (simp; done) | (simp; omega))) | (focus (with_reducible show _ < sizeLine); first | exact sz_lt rfl | exact sz_ltO (by first | omega | (simp; done) | (simp; omega))) | (focus (with_reducible show ixN _ _ = _); first | exact ix0 | rfl) | (focus (with_reducible show -(2 ^ 63) ≤ _ ∧ _ < 2 ^ 63); exact ⟨by omega, by omega⟩) | with_reducible apply r_cmp2z | (focus (with_reducible show List.length _ = _); rfl) | (focus (with_reducible show List.getLast? _ = _); rfl))
          · rfl
        · have hfr : (∀ c ∈ r, blk c = false) ∧ Asc r := lw_free fun x hx => lwo x (by simp [hx])
          refine wd_app (wd_app (a := [c - 32]) ⟨by simp, by simp, fun y hy => ?_, fun y hy => ?_⟩ hfr ?_) (lw_free lx) ?_
          · simp at hy; subst hy; unfold blk; simp; omega
          · simp at hy; subst hy; omega
          · simp at h8 ⊢; omega
          · simp at h8 ⊢; omega
    · by_cases h3 : i % 8 = 4
      · have hd := p_str5 (v := i / 8 / 26 % 100000) (by omega)
        have hfr := int_free (i / 8 / 26 % 100000)
        generalize (Str.ofString (toString (i / 8 / 26 % 100000))).cps.toList = dg at hd hfr
        have hl := cutL_len dg (some (i / 8 / 26 % 2)) none
        have p1 : prim (.slc true false) [.str (mkS dg), .int (i / 8 / 26 % 2)] = some (.val (.str (mkS (cutL dg (some (i / 8 / 26 % 2)) none)))) := p_cutl (by omega)
        have p2 : prim .add [.str (mkS [97 + (i / 8 % 26).toNat]), .str (mkS (cutL dg (some (i / 8 / 26 % 2)) none))] = some (.val (.str (mkS ([97 + (i / 8 % 26).toNat] ++ cutL dg (some (i / 8 / 26 % 2)) none)))) := p_cat (by simp; omega)
        have p3 : prim .idx [.str "abcdefghijklmnopqrstuvwxyz", .int (i / 8 % 26)] = some (.val (.str (mkS [97 + (i / 8 % 26).toNat]))) := abc_ix (by omega)
        refine ⟨[97 + (i / 8 % 26).toNat] ++ cutL dg (some (i / 8 / 26 % 2)) none, ?_, ?_⟩
        · apply go
          · unfold b3
            dsimp only [List.drop]
            repeat (first | (focus (with_reducible show getS _ _ = _); rfl) | (focus (with_reducible show ev _ _ _ _ false _ = _); first | with_reducible apply r_var | with_reducible exact r_lit | with_reducible apply r_op | with_reducible apply r_callE | with_reducible apply r_tup | with_reducible apply r_frz | with_reducible apply r_and | with_reducible apply r_or | with_reducible apply r_not | with_reducible apply (r_mop rfl) | with_reducible apply r_mopB | with_reducible apply r_lst | with_reducible apply r_mv | with_reducible apply r_sh | with_reducible apply r_glob | with_reducible apply r_cmp2 | with_reducible apply r_ite | with_reducible apply r_bw | with_reducible apply r_meth | with_reducible apply r_new | with_reducible apply r_pop | with_reducible apply r_popAt | with_reducible exact r_dct | with_reducible exact r_dctT | with_reducible apply r_dctOf) | (focus (with_reducible show ev _ _ _ _ true _ = _); first | with_reducible apply t_op | with_reducible apply t_call | with_reducible apply r_and | with_reducible apply r_or | with_reducible apply r_not | with_reducible apply t_var | with_reducible apply t_bw | with_reducible apply r_cmp2 | with_reducible apply t_mop | with_reducible apply t_meth | with_reducible apply t_lit) | (focus (with_reducible show evO _ _ _ _ _ = _); first | with_reducible apply (o_cons rfl) | with_reducible exact o_nil | with_reducible apply o_bw | rfl) | (focus (with_reducible show prim _ _ = _); first | (focus (with_reducible show prim .mod _ = _); exact p_mod (by omega)) | (focus (with_reducible show prim .fdiv _ = _); exact p_fdiv ⟨by omega, by omega⟩) | (focus (with_reducible show prim .mul _ = _); first | exact p_mul2 ⟨by omega, by omega⟩ | exact p_mul1 ⟨by omega, by omega⟩) | (focus (with_reducible show prim .pow _ = _); exact p_pow5) | (focus (with_reducible show prim .str _ = _); exact hd.1) | (focus (with_reducible show prim (.slc true false) _ = _); exact p1) | (focus (with_reducible show prim .idx _ = _); exact p3) | (focus (with_reducible show prim .add _ = _); exact p2) | rfl) | (focus (with_reducible show O.frz _ = _); rfl) | (focus (with_reducible show truth _ = _); rfl) | (focus (with_reducible show evV _ _ _ _ _ = _); first | with_reducible apply v_cons | with_reducible exact v_nil | rfl) | (focus (with_reducible show evS _ _ _ _ _ _ = _); first | with_reducible apply s_asg | with_reducible apply s_ite | with_reducible apply s_ret | with_reducible apply s_for | with_reducible apply s_app | with_reducible apply s_setI | with_reducible apply s_expr | with_reducible apply s_unp | with_reducible apply s_aug | with_reducible apply s_while | with_reducible apply s_ext | with_reducible apply s_rev | with_reducible exact s_retN | with_reducible exact s_pass | with_reducible exact s_brk | with_reducible exact s_cont) | (focus (with_reducible show evSs _ _ _ _ _ _ = _); first | with_reducible apply ss_cons | with_reducible exact ss_nil | rfl) | (focus (with_reducible show flK _ _ _ = _); first | with_reducible apply fl_nx | with_reducible exact fl_rt | with_reducible exact fl_bk | with_reducible exact fl_ct | exact fl_rt) | (focus (with_reducible show evA _ _ _ _ _ = _); first | with_reducible apply (a_cons rfl) | with_reducible apply a_rf | with_reducible exact a_nil | with_reducible apply a_fr | rfl) | (focus (with_reducible show takeA _ _ _ = _); rfl) | (focus (with_reducible show giveA _ _ _ = _); rfl) | ((with_reducible apply cond_t); focus (first | rfl | assumption | (simp [*]; done))) | ((with_reducible apply cond_f); focus (first | rfl | assumption | (simp [*]; done))) | (focus (with_reducible show rcv _ _ = _); rfl) | (focus (with_reducible show iterD _ _ = _); rfl) | (focus (with_reducible show plainS _ _ = _); rfl) | (focus (with_reducible show bindT _ _ _ = _); rfl) | (focus (with_reducible show setO _ _ _ _ = _); rfl) | (focus (with_reducible show getElem? _ _ = _); rfl) | (focus (with_reducible show some _ = some _); rfl) | (focus (with_reducible show fgK _ _ _ = _); first | with_reducible apply fg_nx | with_reducible apply fg_ct | with_reducible exact fg_bk | with_reducible exact fg_rt | exact fg_rt) | (focus (with_reducible show forGo _ _ _ _ = _); first | with_reducible exact f_nil | with_reducible apply f_cons) | (focus (with_reducible show _ ≤ sizeLine); first | exact sz_le rfl | exact sz_leO (by first | omega | (simp; done) | (simp; omega))) | (focus (with_reducible show _ < sizeLine); first | exact sz_lt rfl | exact sz_ltO (by first | omega | (simp; done) | (simp; omega))) | (focus (with_reducible show ixN _ _ = _); first | exact ix0 | rfl) | (focus (with_reducible show -(2 ^ 63) ≤ _ ∧ _ < 2 ^ 63); exact ⟨by omega, by omega⟩) | with_reducible apply r_cmp2z | (focus (with_reducible show List.length _ = _); rfl) | (focus (with_reducible show List.getLast? _ = _); rfl))
          · rfl
        · refine wd_app (a := [97 + (i / 8 % 26).toNat]) ⟨by simp, by simp, fun y hy => ?_, fun y hy => ?_⟩ ⟨fun c hc => hfr.1 c (cutL_mem hc), fun c hc => hfr.2 c (cutL_mem hc)⟩ (by simp; omega)
          · simp at hy; subst hy; unfold blk; simp; omega
          · simp at hy; subst hy; omega
      · by_cases h4 : i % 8 = 5
        · obtain ⟨m, rfl⟩ : ∃ k, m = k + 1 := ⟨m - 1, by omega⟩
          obtain ⟨ps, hsg⟩ := signs_ok m
          obtain ⟨ρ', hl, l, q, x, g1, g2, rfl⟩ := f_all (bd := bindT (.one 4)) (body := evSs B.G B.CL B.W (evF B (m + 1)) b3_0) (fun k ρ => ∃ l q x, l.length = k ∧ ((∀ c ∈ l, blk c = false) ∧ Asc l) ∧ ρ = [some (.val (.int i)), some (.val (.lst (drawnL.map .str))), some (.val (.int q)), some (.val (.str (mkS l))), x]) (rngL 0 (1 + i / 8 % 9).toNat) 0 [some (.val (.int i)), some (.val (.lst (drawnL.map .str))), some (.val (.int (i / 8))), some (.val (.str (mkS []))), none] ⟨[], _, _, rfl, lw_free lw_nil, rfl⟩ (by
            rintro j x ρ hx ⟨l, q, y, g1, g2, rfl⟩
            obtain ⟨hj, rfl⟩ := rngL_get hx
            obtain ⟨c, hc, hm⟩ := atI_ofN (l := sgnS.cps.toList) (i := q / 9 % 93) (by rw [sgn_len]; omega)
            have hcf := sgn_free c hm
            have p1 : prim .idx [.str sgnS, .int (q / 9 % 93)] = some (.val (.str (mkS [c]))) := p_ixS (sz_le rfl) hc
            have p2 : prim .add [.str (mkS l), .str (mkS [c])] = some (.val (.str (mkS (l ++ [c])))) := p_cat (by simp; omega)
            apply stn_mk
            · rfl
            · unfold b3_0
              repeat (first | (focus (with_reducible show getS _ _ = _); rfl) | (focus (with_reducible show ev _ _ _ _ false _ = _); first | with_reducible apply r_var | with_reducible exact r_lit | with_reducible apply r_op | with_reducible apply r_callE | with_reducible apply r_tup | with_reducible apply r_frz | with_reducible apply r_and | with_reducible apply r_or | with_reducible apply r_not | with_reducible apply (r_mop rfl) | with_reducible apply r_mopB | with_reducible apply r_lst | with_reducible apply r_mv | with_reducible apply r_sh | with_reducible apply r_glob | with_reducible apply r_cmp2 | with_reducible apply r_ite | with_reducible apply r_bw | with_reducible apply r_meth | with_reducible apply r_new | with_reducible apply r_pop | with_reducible apply r_popAt | with_reducible exact r_dct | with_reducible exact r_dctT | with_reducible apply r_dctOf) | (focus (with_reducible show ev _ _ _ _ true _ = _); first | with_reducible apply t_op | with_reducible apply t_call | with_reducible apply r_and | with_reducible apply r_or | with_reducible apply r_not | with_reducible apply t_var | with_reducible apply t_bw | with_reducible apply r_cmp2 | with_reducible apply t_mop | with_reducible apply t_meth | with_reducible apply t_lit) | (focus (with_reducible show evO _ _ _ _ _ = _); first | with_reducible apply (o_cons rfl) | with_reducible exact o_nil | with_reducible apply o_bw | rfl) | (focus (with_reducible show prim _ _ = _); first | (focus (with_reducible show prim .mod _ = _); exact p_mod (by omega)) | (focus (with_reducible show prim .fdiv _ = _); exact p_fdiv ⟨by omega, by omega⟩) | (focus (with_reducible show prim .mul _ = _); first | exact p_mul2 ⟨by omega, by omega⟩ | exact p_mul1 ⟨by omega, by omega⟩) | (focus (with_reducible show prim .idx _ = _); exact p1) | (focus (with_reducible show prim .add _ = _); exact p2) | rfl) | (focus (with_reducible show O.frz _ = _); rfl) | (focus (with_reducible show truth _ = _); rfl) | (focus (with_reducible show evV _ _ _ _ _ = _); first | with_reducible apply v_cons | with_reducible exact v_nil | rfl) | (focus (with_reducible show evS _ _ _ _ _ _ = _); first | with_reducible apply s_asg | with_reducible apply s_ite | with_reducible apply s_ret | with_reducible apply s_for | with_reducible apply s_app | with_reducible apply s_setI | with_reducible apply s_expr | with_reducible apply s_unp | with_reducible apply s_aug | with_reducible apply s_while | with_reducible apply s_ext | with_reducible apply s_rev | with_reducible exact s_retN | with_reducible exact s_pass | with_reducible exact s_brk | with_reducible exact s_cont) | (focus (with_reducible show evSs _ _ _ _ _ _ = _); first | with_reducible apply ss_cons | with_reducible exact ss_nil | rfl) | (focus (with_reducible show flK _ _ _ = _); first | with_reducible apply fl_nx | with_reducible exact fl_rt | with_reducible exact fl_bk | with_reducible exact fl_ct | exact fl_rt) | (focus (with_reducible show evA _ _ _ _ _ = _); first | with_reducible apply (a_cons rfl) | with_reducible apply a_rf | with_reducible exact a_nil | with_reducible apply a_fr | rfl) | (focus (with_reducible show evF _ _ _ _ = _); first | (focus (with_reducible show evF _ _ 11 _ = _);  exact hsg)) | (focus (with_reducible show takeA _ _ _ = _); rfl) | (focus (with_reducible show giveA _ _ _ = _); rfl) | ((with_reducible apply cond_t); focus (first | rfl | assumption | (simp [*]; done))) | ((with_reducible apply cond_f); focus (first | rfl | assumption | (simp [*]; done))) | (focus (with_reducible show rcv _ _ = _); rfl) | (focus (with_reducible show iterD _ _ = _); rfl) | (focus (with_reducible show plainS _ _ = _); rfl) | (focus (with_reducible show bindT _ _ _ = _); rfl) | (focus (with_reducible show setO _ _ _ _ = _); rfl) | (focus (with_reducible show getElem? _ _ = _); rfl) | (focus (with_reducible show some _ = some _); rfl) | (focus (with_reducible show fgK _ _ _ = _); first | with_reducible apply fg_nx | with_reducible apply fg_ct | with_reducible exact fg_bk | with_reducible exact fg_rt | exact fg_rt) | (focus (with_reducible show forGo _ _ _ _ = _); first | with_reducible exact f_nil | with_reducible apply f_cons) | (focus (with_reducible show _ ≤ sizeLine); first | exact sz_le rfl | exact sz_leO (by first | omega | (simp; done) | (simp; omega))) | (focus (with_reducible show _ < sizeLine); first | exact sz_lt rfl | exact sz_ltO (by first | omega | (simp; done) | (simp; omega))) | (focus (with_reducible show ixN _ _ = _); first | exact ix0 | rfl) | (focus (with_reducible show -(2 ^ 63) ≤ _ ∧ _ < 2 ^ 63); exact ⟨by omega, by omega⟩) | with_reducible apply r_cmp2z | (focus (with_reducible show List.length _ = _); rfl) | (focus (with_reducible show List.getLast? _ = _); rfl))
            · exact ⟨l ++ [c], _, _, by simp [g1], fr_app g2 (fr_one hcf), rfl⟩)
          rw [rngL_len] at g1
          refine ⟨l, ?_, ⟨fun e => by subst e; simp at g1; omega, by omega, g2.1, g2.2⟩⟩
          apply go
          · unfold b3
            dsimp only [List.drop]
            repeat (first | (focus (with_reducible show getS _ _ = _); rfl) | (focus (with_reducible show ev _ _ _ _ false _ = _); first | with_reducible apply r_var | with_reducible exact r_lit | with_reducible apply r_op | with_reducible apply r_callE | with_reducible apply r_tup | with_reducible apply r_frz | with_reducible apply r_and | with_reducible apply r_or | with_reducible apply r_not | with_reducible apply (r_mop rfl) | with_reducible apply r_mopB | with_reducible apply r_lst | with_reducible apply r_mv | with_reducible apply r_sh | with_reducible apply r_glob | with_reducible apply r_cmp2 | with_reducible apply r_ite | with_reducible apply r_bw | with_reducible apply r_meth | with_reducible apply r_new | with_reducible apply r_pop | with_reducible apply r_popAt | with_reducible exact r_dct | with_reducible exact r_dctT | with_reducible apply r_dctOf) | (focus (with_reducible show ev _ _ _ _ true _ = _); first | with_reducible apply t_op | with_reducible apply t_call | with_reducible apply r_and | with_reducible apply r_or | with_reducible apply r_not | with_reducible apply t_var | with_reducible apply t_bw | with_reducible apply r_cmp2 | with_reducible apply t_mop | with_reducible apply t_meth | with_reducible apply t_lit) | (focus (with_reducible show evO _ _ _ _ _ = _); first | with_reducible apply (o_cons rfl) | with_reducible exact o_nil | with_reducible apply o_bw | rfl) | (focus (with_reducible show prim _ _ = _); first | (focus (with_reducible show prim .mod _ = _); exact p_mod (by omega)) | (focus (with_reducible show prim .fdiv _ = _); exact p_fdiv ⟨by omega, by omega⟩) | (focus (with_reducible show prim .mul _ = _); first | exact p_mul2 ⟨by omega, by omega⟩ | exact p_mul1 ⟨by omega, by omega⟩) | rfl) | (focus (with_reducible show O.frz _ = _); rfl) | (focus (with_reducible show truth _ = _); rfl) | (focus (with_reducible show evV _ _ _ _ _ = _); first | with_reducible apply v_cons | with_reducible exact v_nil | rfl) | (focus (with_reducible show evS _ _ _ _ _ _ = _); first | with_reducible apply s_asg | with_reducible apply s_ite | with_reducible apply s_ret | with_reducible apply s_for | with_reducible apply s_app | with_reducible apply s_setI | with_reducible apply s_expr | with_reducible apply s_unp | with_reducible apply s_aug | with_reducible apply s_while | with_reducible apply s_ext | with_reducible apply s_rev | with_reducible exact s_retN | with_reducible exact s_pass | with_reducible exact s_brk | with_reducible exact s_cont) | (focus (with_reducible show evSs _ _ _ _ _ _ = _); first | with_reducible apply ss_cons | with_reducible exact ss_nil | rfl) | (focus (with_reducible show flK _ _ _ = _); first | with_reducible apply fl_nx | with_reducible exact fl_rt | with_reducible exact fl_bk | with_reducible exact fl_ct | exact fl_rt) | (focus (with_reducible show evA _ _ _ _ _ = _); first | with_reducible apply (a_cons rfl) | with_reducible apply a_rf | with_reducible exact a_nil | with_reducible apply a_fr | rfl) | (focus (with_reducible show takeA _ _ _ = _); rfl) | (focus (with_reducible show giveA _ _ _ = _); rfl) | ((with_reducible apply cond_t); focus (first | rfl | assumption | (simp [*]; done))) | ((with_reducible apply cond_f); focus (first | rfl | assumption | (simp [*]; done))) | (focus (with_reducible show forGo _ _ _ _ = _); exact hl) | (focus (with_reducible show iterD .rng1 _ = _); exact it1 (by omega)) | (focus (with_reducible show rcv _ _ = _); rfl) | (focus (with_reducible show iterD _ _ = _); rfl) | (focus (with_reducible show plainS _ _ = _); rfl) | (focus (with_reducible show bindT _ _ _ = _); rfl) | (focus (with_reducible show setO _ _ _ _ = _); rfl) | (focus (with_reducible show getElem? _ _ = _); rfl) | (focus (with_reducible show some _ = some _); rfl) | (focus (with_reducible show fgK _ _ _ = _); first | with_reducible apply fg_nx | with_reducible apply fg_ct | with_reducible exact fg_bk | with_reducible exact fg_rt | exact fg_rt) | (focus (with_reducible show forGo _ _ _ _ = _); first | with_reducible exact f_nil | with_reducible apply f_cons) | (focus (with_reducible show _ ≤ sizeLine); first | exact sz_le rfl | exact sz_leO (by first | omega | (simp; done) | (simp; omega))) | (focus (with_reducible show _ < sizeLine); first | exact sz_lt rfl | exact sz_ltO (by first | omega | (simp; done) | (simp; omega))) | (focus (with_reducible show ixN _ _ = _); first | exact ix0 | rfl) | (focus (with_reducible show -(2 ^ 63) ≤ _ ∧ _ < 2 ^ 63); exact ⟨by omega, by omega⟩) | with_reducible apply r_cmp2z | (focus (with_reducible show List.length _ = _); rfl) | (focus (with_reducible show List.getLast? _ = _); rfl))
          · rfl
        · obtain ⟨w, hw, lwo, hpos, h8⟩ := word_ok m (by omega) (i / 8)
          have hl := cutL_len [97, 98] none (some (i / 8 % 24 / 22))
          have p1 := p_ab (i / 8 % 24 / 22)
          have p2 : prim .add [.str (mkS w), .str (mkS (cutL [97, 98] none (some (i / 8 % 24 / 22))))] = some (.val (.str (mkS (w ++ cutL [97, 98] none (some (i / 8 % 24 / 22)))))) := p_cat (by simp at hl; omega)
          refine ⟨w ++ cutL [97, 98] none (some (i / 8 % 24 / 22)), ?_, ?_⟩
          · apply go
            · unfold b3
              dsimp only [List.drop]
              repeat (first | (focus (with_reducible show getS _ _ = _); rfl) | (focus (with_reducible show ev _ _ _ _ false _ = _); first | with_reducible apply r_var | with_reducible exact r_lit | with_reducible apply r_op | with_reducible apply r_callE | with_reducible apply r_tup | with_reducible apply r_frz | with_reducible apply r_and | with_reducible apply r_or | with_reducible apply r_not | with_reducible apply (r_mop rfl) | with_reducible apply r_mopB | with_reducible apply r_lst | with_reducible apply r_mv | with_reducible apply r_sh | with_reducible apply r_glob | with_reducible apply r_cmp2 | with_reducible apply r_ite | with_reducible apply r_bw | with_reducible apply r_meth | with_reducible apply r_new | with_reducible apply r_pop | with_reducible apply r_popAt | with_reducible exact r_dct | with_reducible exact r_dctT | with_reducible apply r_dctOf) | (focus (with_reducible show ev _ _ _ _ true _ = _); first | with_reducible apply t_op | with_reducible apply t_call | with_reducible apply r_and | with_reducible apply r_or | with_reducible apply r_not | with_reducible apply t_var | with_reducible apply t_bw | with_reducible apply r_cmp2 | with_reducible apply t_mop | with_reducible apply t_meth | with_reducible apply t_lit) | (focus (with_reducible show evO _ _ _ _ _ = _); first | with_reducible apply (o_cons rfl) | with_reducible exact o_nil | with_reducible apply o_bw | rfl) | (focus (with_reducible show prim _ _ = _); first | (focus (with_reducible show prim .mod _ = _); exact p_mod (by omega)) | (focus (with_reducible show prim .fdiv _ = _); exact p_fdiv ⟨by omega, by omega⟩) | (focus (with_reducible show prim .mul _ = _); first | exact p_mul2 ⟨by omega, by omega⟩ | exact p_mul1 ⟨by omega, by omega⟩) | (focus (with_reducible show prim (.slc false true) _ = _); exact p1) | (focus (with_reducible show prim .add _ = _); exact p2) | rfl) | (focus (with_reducible show O.frz _ = _); rfl) | (focus (with_reducible show truth _ = _); rfl) | (focus (with_reducible show evV _ _ _ _ _ = _); first | with_reducible apply v_cons | with_reducible exact v_nil | rfl) | (focus (with_reducible show evS _ _ _ _ _ _ = _); first | with_reducible apply s_asg | with_reducible apply s_ite | with_reducible apply s_ret | with_reducible apply s_for | with_reducible apply s_app | with_reducible apply s_setI | with_reducible apply s_expr | with_reducible apply s_unp | with_reducible apply s_aug | with_reducible apply s_while | with_reducible apply s_ext | with_reducible apply s_rev | with_reducible exact s_retN | with_reducible exact s_pass | with_reducible exact s_brk | with_reducible exact s_cont) | (focus (with_reducible show evSs _ _ _ _ _ _ = _); first | with_reducible apply ss_cons | with_reducible exact ss_nil | rfl) | (focus (with_reducible show flK _ _ _ = _); first | with_reducible apply fl_nx | with_reducible exact fl_rt | with_reducible exact fl_bk | with_reducible exact fl_ct | exact fl_rt) | (focus (with_reducible show evA _ _ _ _ _ = _); first | with_reducible apply (a_cons rfl) | with_reducible apply a_rf | with_reducible exact a_nil | with_reducible apply a_fr | rfl) | (focus (with_reducible show evF _ _ _ _ = _); first | (focus (with_reducible show evF _ _ 10 _ = _);  exact hw)) | (focus (with_reducible show takeA _ _ _ = _); rfl) | (focus (with_reducible show giveA _ _ _ = _); rfl) | ((with_reducible apply cond_t); focus (first | rfl | assumption | (simp [*]; done))) | ((with_reducible apply cond_f); focus (first | rfl | assumption | (simp [*]; done))) | (focus (with_reducible show rcv _ _ = _); rfl) | (focus (with_reducible show iterD _ _ = _); rfl) | (focus (with_reducible show plainS _ _ = _); rfl) | (focus (with_reducible show bindT _ _ _ = _); rfl) | (focus (with_reducible show setO _ _ _ _ = _); rfl) | (focus (with_reducible show getElem? _ _ = _); rfl) | (focus (with_reducible show some _ = some _); rfl) | (focus (with_reducible show fgK _ _ _ = _); first | with_reducible apply fg_nx | with_reducible apply fg_ct | with_reducible exact fg_bk | with_reducible exact fg_rt | exact fg_rt) | (focus (with_reducible show forGo _ _ _ _ = _); first | with_reducible exact f_nil | with_reducible apply f_cons) | (focus (with_reducible show _ ≤ sizeLine); first | exact sz_le rfl | exact sz_leO (by first | omega | (simp; done) | (simp; omega))) | (focus (with_reducible show _ < sizeLine); first | exact sz_lt rfl | exact sz_ltO (by first | omega | (simp; done) | (simp; omega))) | (focus (with_reducible show ixN _ _ = _); first | exact ix0 | rfl) | (focus (with_reducible show -(2 ^ 63) ≤ _ ∧ _ < 2 ^ 63); exact ⟨by omega, by omega⟩) | with_reducible apply r_cmp2z | (focus (with_reducible show List.length _ = _); rfl) | (focus (with_reducible show List.getLast? _ = _); rfl))
            · rfl
          · have hfr := lw_free lwo
            refine wd_app ⟨fun e => by subst e; simp at hpos, by omega, hfr.1, hfr.2⟩ (lw_free fun c hc => ?_) (by simp at hl; omega)
            have := cutL_mem hc
            simp at this
            omega

/-! ### words -/
theorem repl_eq (t : List Nat) : Txt.replace (mkS t) "\n" " " = mkS (t.map fun c => if c = 10 then 32 else c) := by
  have h := StrLaws.replace_list (x := mkS t) (y := "\n") (z := " ") (by decide)
  rw [← mkS_of (Txt.replace (mkS t) "\n" " "), h, mkS_cps]
  congr 1
  exact repl_map t
theorem words_f (m : Nat) (t : List Nat) (ht : t.length ≤ 1000) : evF B (m + 1) 5 [.val (.str (mkS t))] = some (.lst (((tk [] t).map mkS).map .str), [some (.val (.str (mkS t)))]) := by
  have hlen : (Txt.replace (mkS t) "\n" " ").length = t.length := by rw [repl_eq, mkS_len, List.length_map]
  have hs := PyProof.Rows.split_le (Txt.replace (mkS t) "\n" " ") " "
  have p1 : prim .replace [.str (mkS t), .str "\n", .str " "] = some (.val (.str (Txt.replace (mkS t) "\n" " "))) := by
    show (if _ then _ else _) = _
    rw [if_pos ⟨by decide, by rw [mkS_len]; show t.length + (t.length + 1) * 1 ≤ _; omega⟩]
  have p2 : prim .split [.str (Txt.replace (mkS t) "\n" " "), .str " "] = some (.lst ((Txt.split (Txt.replace (mkS t) "\n" " ") " ").map .str)) := by
    show (if _ then _ else _) = _
    rw [if_pos ⟨by decide, by rw [hlen]; exact Nat.le_trans (show t.length + 2 ≤ 1002 by omega) (by decide)⟩]
  have hc := c_filter (step := cStep B.G B.CL (evF B m) (.one 1) [.op .ne [.var 1, .lit (.str "")]] (.var 1)) (ρ := [some (.val (.str (mkS t))), none]) (fun x => match x with | .str s => decide (s ≠ ("" : Str)) | _ => false) ((Txt.split (Txt.replace (mkS t) "\n" " ") " ").map .str) (by
    intro x hx
    obtain ⟨s, _, rfl⟩ := List.mem_map.mp hx
    have hp : prim .ne [.str s, .str ""] = some (.val (.bl (decide (s ≠ ("" : Str))))) := by
      show some (O.val (EV.D.bl (!decide (s = ("" : Str))))) = _
      by_cases h : s = ("" : Str) <;> simp [h]
    by_cases h : s = ("" : Str)
    · have e : (match EV.D.str s with | .str s => decide (s ≠ ("" : Str)) | _ => false) = false := by show decide (s ≠ ("" : Str)) = false; simp [h]
      rw [show decide (s ≠ ("" : Str)) = false from e] at hp
      rw [e]
      exact cs_1 rfl (ρ2 := [some (.val (.str (mkS t))), some (.val (.str s))]) (b := false) (by repeat (first | (focus (with_reducible show getS _ _ = _); rfl) | (focus (with_reducible show ev _ _ _ _ false _ = _); first | with_reducible apply r_var | with_reducible exact r_lit | with_reducible apply r_op | with_reducible apply r_callE | with_reducible apply r_tup | with_reducible apply r_frz | with_reducible apply r_and | with_reducible apply r_or | with_reducible apply r_not | with_reducible apply (r_mop rfl) | with_reducible apply r_mopB | with_reducible apply r_lst | with_reducible apply r_mv | with_reducible apply r_sh | with_reducible apply r_glob | with_reducible apply r_cmp2 | with_reducible apply r_ite | with_reducible apply r_bw | with_reducible apply r_meth | with_reducible apply r_new | with_reducible apply r_pop | with_reducible apply r_popAt | with_reducible exact r_dct | with_reducible exact r_dctT | with_reducible apply r_dctOf) | (focus (with_reducible show ev _ _ _ _ true _ = _); first | with_reducible apply t_op | with_reducible apply t_call | with_reducible apply r_and | with_reducible apply r_or | with_reducible apply r_not | with_reducible apply t_var | with_reducible apply t_bw | with_reducible apply r_cmp2 | with_reducible apply t_mop | with_reducible apply t_meth | with_reducible apply t_lit) | (focus (with_reducible show evO _ _ _ _ _ = _); first | with_reducible apply (o_cons rfl) | with_reducible exact o_nil | with_reducible apply o_bw | rfl) | (focus (with_reducible show prim _ _ = _); first | (focus (with_reducible show prim .mod _ = _); exact p_mod (by omega)) | (focus (with_reducible show prim .fdiv _ = _); exact p_fdiv ⟨by omega, by omega⟩) | (focus (with_reducible show prim .mul _ = _); first | exact p_mul2 ⟨by omega, by omega⟩ | exact p_mul1 ⟨by omega, by omega⟩) | exact hp | rfl) | (focus (with_reducible show O.frz _ = _); rfl) | (focus (with_reducible show truth _ = _); rfl) | (focus (with_reducible show evV _ _ _ _ _ = _); first | with_reducible apply v_cons | with_reducible exact v_nil | rfl) | (focus (with_reducible show evS _ _ _ _ _ _ = _); first | with_reducible apply s_asg | with_reducible apply s_ite | with_reducible apply s_ret | with_reducible apply s_for | with_reducible apply s_app | with_reducible apply s_setI | with_reducible apply s_expr | with_reducible apply s_unp | with_reducible apply s_aug | with_reducible apply s_while | with_reducible apply s_ext | with_reducible apply s_rev | with_reducible exact s_retN | with_reducible exact s_pass | with_reducible exact s_brk | with_reducible exact s_cont) | (focus (with_reducible show evSs _ _ _ _ _ _ = _); first | with_reducible apply ss_cons | with_reducible exact ss_nil | rfl) | (focus (with_reducible show flK _ _ _ = _); first | with_reducible apply fl_nx | with_reducible exact fl_rt | with_reducible exact fl_bk | with_reducible exact fl_ct | exact fl_rt) | (focus (with_reducible show evA _ _ _ _ _ = _); first | with_reducible apply (a_cons rfl) | with_reducible apply a_rf | with_reducible exact a_nil | with_reducible apply a_fr | rfl) | (focus (with_reducible show takeA _ _ _ = _); rfl) | (focus (with_reducible show giveA _ _ _ = _); rfl) | ((with_reducible apply cond_t); focus (first | rfl | assumption | (simp [*]; done))) | ((with_reducible apply cond_f); focus (first | rfl | assumption | (simp [*]; done))) | (focus (with_reducible show rcv _ _ = _); rfl) | (focus (with_reducible show iterD _ _ = _); rfl) | (focus (with_reducible show plainS _ _ = _); rfl) | (focus (with_reducible show bindT _ _ _ = _); rfl) | (focus (with_reducible show setO _ _ _ _ = _); rfl) | (focus (with_reducible show getElem? _ _ = _); rfl) | (focus (with_reducible show some _ = some _); rfl) | (focus (with_reducible show fgK _ _ _ = _); first | with_reducible apply fg_nx | with_reducible apply fg_ct | with_reducible exact fg_bk | with_reducible exact fg_rt | exact fg_rt) | (focus (with_reducible show forGo _ _ _ _ = _); first | with_reducible exact f_nil | with_reducible apply f_cons) | (focus (with_reducible show _ ≤ sizeLine); first | exact sz_le rfl | exact sz_leO (by first | omega | (simp; done) | (simp; omega))) | (focus (with_reducible show _ < sizeLine); first | exact sz_lt rfl | exact sz_ltO (by first | omega | (simp; done) | (simp; omega))) | (focus (with_reducible show ixN _ _ = _); first | exact ix0 | rfl) | (focus (with_reducible show -(2 ^ 63) ≤ _ ∧ _ < 2 ^ 63); exact ⟨by omega, by omega⟩) | with_reducible apply r_cmp2z | (focus (with_reducible show List.length _ = _); rfl) | (focus (with_reducible show List.getLast? _ = _); rfl))) rfl
    · have e : (match EV.D.str s with | .str s => decide (s ≠ ("" : Str)) | _ => false) = true := by show decide (s ≠ ("" : Str)) = true; simp [h]
      rw [show decide (s ≠ ("" : Str)) = true from e] at hp
      rw [e]
      refine cs_1 rfl (ρ2 := [some (.val (.str (mkS t))), some (.val (.str s))]) (b := true) (by repeat (first | (focus (with_reducible show getS _ _ = _); rfl) | (focus (with_reducible show ev _ _ _ _ false _ = _); first | with_reducible apply r_var | with_reducible exact r_lit | with_reducible apply r_op | with_reducible apply r_callE | with_reducible apply r_tup | with_reducible apply r_frz | with_reducible apply r_and | with_reducible apply r_or | with_reducible apply r_not | with_reducible apply (r_mop rfl) | with_reducible apply r_mopB | with_reducible apply r_lst | with_reducible apply r_mv | with_reducible apply r_sh | with_reducible apply r_glob | with_reducible apply r_cmp2 | with_reducible apply r_ite | with_reducible apply r_bw | with_reducible apply r_meth | with_reducible apply r_new | with_reducible apply r_pop | with_reducible apply r_popAt | with_reducible exact r_dct | with_reducible exact r_dctT | with_reducible apply r_dctOf) | (focus (with_reducible show ev _ _ _ _ true _ = _); first | with_reducible apply t_op | with_reducible apply t_call | with_reducible apply r_and | with_reducible apply r_or | with_reducible apply r_not | with_reducible apply t_var | with_reducible apply t_bw | with_reducible apply r_cmp2 | with_reducible apply t_mop | with_reducible apply t_meth | with_reducible apply t_lit) | (focus (with_reducible show evO _ _ _ _ _ = _); first | with_reducible apply (o_cons rfl) | with_reducible exact o_nil | with_reducible apply o_bw | rfl) | (focus (with_reducible show prim _ _ = _); first | (focus (with_reducible show prim .mod _ = _); exact p_mod (by omega)) | (focus (with_reducible show prim .fdiv _ = _); exact p_fdiv ⟨by omega, by omega⟩) | (focus (with_reducible show prim .mul _ = _); first | exact p_mul2 ⟨by omega, by omega⟩ | exact p_mul1 ⟨by omega, by omega⟩) | exact hp | rfl) | (focus (with_reducible show O.frz _ = _); rfl) | (focus (with_reducible show truth _ = _); rfl) | (focus (with_reducible show evV _ _ _ _ _ = _); first | with_reducible apply v_cons | with_reducible exact v_nil | rfl) | (focus (with_reducible show evS _ _ _ _ _ _ = _); first | with_reducible apply s_asg | with_reducible apply s_ite | with_reducible apply s_ret | with_reducible apply s_for | with_reducible apply s_app | with_reducible apply s_setI | with_reducible apply s_expr | with_reducible apply s_unp | with_reducible apply s_aug | with_reducible apply s_while | with_reducible apply s_ext | with_reducible apply s_rev | with_reducible exact s_retN | with_reducible exact s_pass | with_reducible exact s_brk | with_reducible exact s_cont) | (focus (with_reducible show evSs _ _ _ _ _ _ = _); first | with_reducible apply ss_cons | with_reducible exact ss_nil | rfl) | (focus (with_reducible show flK _ _ _ = _); first | with_reducible apply fl_nx | with_reducible exact fl_rt | with_reducible exact fl_bk | with_reducible exact fl_ct | exact fl_rt) | (focus (with_reducible show evA _ _ _ _ _ = _); first | with_reducible apply (a_cons rfl) | with_reducible apply a_rf | with_reducible exact a_nil | with_reducible apply a_fr | rfl) | (focus (with_reducible show takeA _ _ _ = _); rfl) | (focus (with_reducible show giveA _ _ _ = _); rfl) | ((with_reducible apply cond_t); focus (first | rfl | assumption | (simp [*]; done))) | ((with_reducible apply cond_f); focus (first | rfl | assumption | (simp [*]; done))) | (focus (with_reducible show rcv _ _ = _); rfl) | (focus (with_reducible show iterD _ _ = _); rfl) | (focus (with_reducible show plainS _ _ = _); rfl) | (focus (with_reducible show bindT _ _ _ = _); rfl) | (focus (with_reducible show setO _ _ _ _ = _); rfl) | (focus (with_reducible show getElem? _ _ = _); rfl) | (focus (with_reducible show some _ = some _); rfl) | (focus (with_reducible show fgK _ _ _ = _); first | with_reducible apply fg_nx | with_reducible apply fg_ct | with_reducible exact fg_bk | with_reducible exact fg_rt | exact fg_rt) | (focus (with_reducible show forGo _ _ _ _ = _); first | with_reducible exact f_nil | with_reducible apply f_cons) | (focus (with_reducible show _ ≤ sizeLine); first | exact sz_le rfl | exact sz_leO (by first | omega | (simp; done) | (simp; omega))) | (focus (with_reducible show _ < sizeLine); first | exact sz_lt rfl | exact sz_ltO (by first | omega | (simp; done) | (simp; omega))) | (focus (with_reducible show ixN _ _ = _); first | exact ix0 | rfl) | (focus (with_reducible show -(2 ^ 63) ≤ _ ∧ _ < 2 ^ 63); exact ⟨by omega, by omega⟩) | with_reducible apply r_cmp2z | (focus (with_reducible show List.length _ = _); rfl) | (focus (with_reducible show List.getLast? _ = _); rfl))) ?_
      exact (cs_1e (G := B.G) (CL := B.CL) (C := evF B m) (e := .var 1) (ρ := [some (.val (.str (mkS t))), some (.val (.str s))]) (o := .val (.str s)) (by repeat (first | (focus (with_reducible show getS _ _ = _); rfl) | (focus (with_reducible show ev _ _ _ _ false _ = _); first | with_reducible apply r_var | with_reducible exact r_lit | with_reducible apply r_op | with_reducible apply r_callE | with_reducible apply r_tup | with_reducible apply r_frz | with_reducible apply r_and | with_reducible apply r_or | with_reducible apply r_not | with_reducible apply (r_mop rfl) | with_reducible apply r_mopB | with_reducible apply r_lst | with_reducible apply r_mv | with_reducible apply r_sh | with_reducible apply r_glob | with_reducible apply r_cmp2 | with_reducible apply r_ite | with_reducible apply r_bw | with_reducible apply r_meth | with_reducible apply r_new | with_reducible apply r_pop | with_reducible apply r_popAt | with_reducible exact r_dct | with_reducible exact r_dctT | with_reducible apply r_dctOf) | (focus (with_reducible show ev _ _ _ _ true _ = _); first | with_reducible apply t_op | with_reducible apply t_call | with_reducible apply r_and | with_reducible apply r_or | with_reducible apply r_not | with_reducible apply t_var | with_reducible apply t_bw | with_reducible apply r_cmp2 | with_reducible apply t_mop | with_reducible apply t_meth | with_reducible apply t_lit) | (focus (with_reducible show evO _ _ _ _ _ = _); first | with_reducible apply (o_cons rfl) | with_reducible exact o_nil | with_reducible apply o_bw | rfl) | (focus (with_reducible show prim _ _ = _); first | (focus (with_reducible show prim .mod _ = _); exact p_mod (by omega)) | (focus (with_reducible show prim .fdiv _ = _); exact p_fdiv ⟨by omega, by omega⟩) | (focus (with_reducible show prim .mul _ = _); first | exact p_mul2 ⟨by omega, by omega⟩ | exact p_mul1 ⟨by omega, by omega⟩) | rfl) | (focus (with_reducible show O.frz _ = _); rfl) | (focus (with_reducible show truth _ = _); rfl) | (focus (with_reducible show evV _ _ _ _ _ = _); first | with_reducible apply v_cons | with_reducible exact v_nil | rfl) | (focus (with_reducible show evS _ _ _ _ _ _ = _); first | with_reducible apply s_asg | with_reducible apply s_ite | with_reducible apply s_ret | with_reducible apply s_for | with_reducible apply s_app | with_reducible apply s_setI | with_reducible apply s_expr | with_reducible apply s_unp | with_reducible apply s_aug | with_reducible apply s_while | with_reducible apply s_ext | with_reducible apply s_rev | with_reducible exact s_retN | with_reducible exact s_pass | with_reducible exact s_brk | with_reducible exact s_cont) | (focus (with_reducible show evSs _ _ _ _ _ _ = _); first | with_reducible apply ss_cons | with_reducible exact ss_nil | rfl) | (focus (with_reducible show flK _ _ _ = _); first | with_reducible apply fl_nx | with_reducible exact fl_rt | with_reducible exact fl_bk | with_reducible exact fl_ct | exact fl_rt) | (focus (with_reducible show evA _ _ _ _ _ = _); first | with_reducible apply (a_cons rfl) | with_reducible apply a_rf | with_reducible exact a_nil | with_reducible apply a_fr | rfl) | (focus (with_reducible show takeA _ _ _ = _); rfl) | (focus (with_reducible show giveA _ _ _ = _); rfl) | ((with_reducible apply cond_t); focus (first | rfl | assumption | (simp [*]; done))) | ((with_reducible apply cond_f); focus (first | rfl | assumption | (simp [*]; done))) | (focus (with_reducible show rcv _ _ = _); rfl) | (focus (with_reducible show iterD _ _ = _); rfl) | (focus (with_reducible show plainS _ _ = _); rfl) | (focus (with_reducible show bindT _ _ _ = _); rfl) | (focus (with_reducible show setO _ _ _ _ = _); rfl) | (focus (with_reducible show getElem? _ _ = _); rfl) | (focus (with_reducible show some _ = some _); rfl) | (focus (with_reducible show fgK _ _ _ = _); first | with_reducible apply fg_nx | with_reducible apply fg_ct | with_reducible exact fg_bk | with_reducible exact fg_rt | exact fg_rt) | (focus (with_reducible show forGo _ _ _ _ = _); first | with_reducible exact f_nil | with_reducible apply f_cons) | (focus (with_reducible show _ ≤ sizeLine); first | exact sz_le rfl | exact sz_leO (by first | omega | (simp; done) | (simp; omega))) | (focus (with_reducible show _ < sizeLine); first | exact sz_lt rfl | exact sz_ltO (by first | omega | (simp; done) | (simp; omega))) | (focus (with_reducible show ixN _ _ = _); first | exact ix0 | rfl) | (focus (with_reducible show -(2 ^ 63) ≤ _ ∧ _ < 2 ^ 63); exact ⟨by omega, by omega⟩) | with_reducible apply r_cmp2z | (focus (with_reducible show List.length _ = _); rfl) | (focus (with_reducible show List.getLast? _ = _); rfl)))))
  have ef : ((Txt.split (Txt.replace (mkS t) "\n" " ") " ").map EV.D.str).filter (fun x => match x with | .str s => decide (s ≠ ("" : Str)) | _ => false) = ((tk [] t).map mkS).map .str := by
    rw [List.filter_map, ← words_split]; rfl
  have hz : (((tk [] t).map mkS).map EV.D.str).length ≤ 1002 := by
    rw [← ef]
    refine Nat.le_trans (List.length_filter_le _ _) ?_
    rw [List.length_map]
    omega
  rw [ef] at hc
  apply r_fn (F := ⟨1, 2, none, b5⟩) rfl rfl
  · unfold b5 wordsE wSplit
    dsimp only
    repeat (first | (focus (with_reducible show getS _ _ = _); rfl) | (focus (with_reducible show ev _ _ _ _ false _ = _); first | with_reducible apply r_var | with_reducible exact r_lit | with_reducible apply r_op | with_reducible apply r_callE | with_reducible apply r_tup | with_reducible apply r_frz | with_reducible apply r_and | with_reducible apply r_or | with_reducible apply r_not | with_reducible apply (r_mop rfl) | with_reducible apply r_mopB | with_reducible apply r_lst | with_reducible apply r_mv | with_reducible apply r_sh | with_reducible apply r_glob | with_reducible apply r_cmp2 | with_reducible apply r_comp | with_reducible apply r_ite | with_reducible apply r_bw | with_reducible apply r_meth | with_reducible apply r_new | with_reducible apply r_pop | with_reducible apply r_popAt | with_reducible exact r_dct | with_reducible exact r_dctT | with_reducible apply r_dctOf) | (focus (with_reducible show ev _ _ _ _ true _ = _); first | with_reducible apply t_op | with_reducible apply t_call | with_reducible apply r_and | with_reducible apply r_or | with_reducible apply r_not | with_reducible apply t_var | with_reducible apply t_bw | with_reducible apply r_cmp2 | with_reducible apply t_mop | with_reducible apply t_meth | with_reducible apply t_lit | with_reducible apply r_comp) | (focus (with_reducible show evO _ _ _ _ _ = _); first | with_reducible apply (o_cons rfl) | with_reducible exact o_nil | with_reducible apply o_bw | rfl) | (focus (with_reducible show prim _ _ = _); first | (focus (with_reducible show prim .mod _ = _); exact p_mod (by omega)) | (focus (with_reducible show prim .fdiv _ = _); exact p_fdiv ⟨by omega, by omega⟩) | (focus (with_reducible show prim .mul _ = _); first | exact p_mul2 ⟨by omega, by omega⟩ | exact p_mul1 ⟨by omega, by omega⟩) | (focus (with_reducible show prim .replace _ = _); exact p1) | (focus (with_reducible show prim .split _ = _); exact p2) | rfl) | (focus (with_reducible show O.frz _ = _); rfl) | (focus (with_reducible show truth _ = _); rfl) | (focus (with_reducible show evV _ _ _ _ _ = _); first | with_reducible apply v_cons | with_reducible exact v_nil | rfl) | (focus (with_reducible show evS _ _ _ _ _ _ = _); first | with_reducible apply s_asg | with_reducible apply s_ite | with_reducible apply s_ret | with_reducible apply s_for | with_reducible apply s_app | with_reducible apply s_setI | with_reducible apply s_expr | with_reducible apply s_unp | with_reducible apply s_aug | with_reducible apply s_while | with_reducible apply s_ext | with_reducible apply s_rev | with_reducible exact s_retN | with_reducible exact s_pass | with_reducible exact s_brk | with_reducible exact s_cont) | (focus (with_reducible show evSs _ _ _ _ _ _ = _); first | with_reducible apply ss_cons | with_reducible exact ss_nil | rfl) | (focus (with_reducible show flK _ _ _ = _); first | with_reducible apply fl_nx | with_reducible exact fl_rt | with_reducible exact fl_bk | with_reducible exact fl_ct | exact fl_rt) | (focus (with_reducible show evA _ _ _ _ _ = _); first | with_reducible apply (a_cons rfl) | with_reducible apply a_rf | with_reducible exact a_nil | with_reducible apply a_fr | rfl) | (focus (with_reducible show takeA _ _ _ = _); rfl) | (focus (with_reducible show giveA _ _ _ = _); rfl) | ((with_reducible apply cond_t); focus (first | rfl | assumption | (simp [*]; done))) | ((with_reducible apply cond_f); focus (first | rfl | assumption | (simp [*]; done))) | (focus (with_reducible show compGo _ _ _ = _); exact hc) | (focus (with_reducible show _ ≤ sizeLine); exact sz_leO (by omega)) | (focus (with_reducible show rcv _ _ = _); rfl) | (focus (with_reducible show iterD _ _ = _); rfl) | (focus (with_reducible show plainS _ _ = _); rfl) | (focus (with_reducible show bindT _ _ _ = _); rfl) | (focus (with_reducible show setO _ _ _ _ = _); rfl) | (focus (with_reducible show getElem? _ _ = _); rfl) | (focus (with_reducible show some _ = some _); rfl) | (focus (with_reducible show fgK _ _ _ = _); first | with_reducible apply fg_nx | with_reducible apply fg_ct | with_reducible exact fg_bk | with_reducible exact fg_rt | exact fg_rt) | (focus (with_reducible show forGo _ _ _ _ = _); first | with_reducible exact f_nil | with_reducible apply f_cons) | (focus (with_reducible show _ ≤ sizeLine); first | exact sz_le rfl | exact sz_leO (by first | omega | (simp; done) | (simp; omega))) | (focus (with_reducible show _ < sizeLine); first | exact sz_lt rfl | exact sz_ltO (by first | omega | (simp; done) | (simp; omega))) | (focus (with_reducible show ixN _ _ = _); first | exact ix0 | rfl) | (focus (with_reducible show -(2 ^ 63) ≤ _ ∧ _ < 2 ^ 63); exact ⟨by omega, by omega⟩) | with_reducible apply r_cmp2z | (focus (with_reducible show List.length _ = _); rfl) | (focus (with_reducible show List.getLast? _ = _); rfl))
  · rfl
/-! ### the text -/
def Bk (b : List Nat) : Prop := ∀ c ∈ b, blk c = true
theorem sep_ok {v : Int} (h : 0 ≤ v ∧ v < 6) : ∃ s, prim .idx [.lst [.str " ", .str " ", .str "\n", .str "  ", .str " \n ", .str " "], .int v] = some (.val (.str (mkS s))) ∧ s ≠ [] ∧ Bk s ∧ s.length ≤ 3 := by
  have : v = 0 ∨ v = 1 ∨ v = 2 ∨ v = 3 ∨ v = 4 ∨ v = 5 := by omega
  rcases this with rfl | rfl | rfl | rfl | rfl | rfl
  · exact ⟨[32], rfl, by decide, by unfold Bk; decide, by decide⟩
  · exact ⟨[32], rfl, by decide, by unfold Bk; decide, by decide⟩
  · exact ⟨[10], rfl, by decide, by unfold Bk; decide, by decide⟩
  · exact ⟨[32, 32], rfl, by decide, by unfold Bk; decide, by decide⟩
  · exact ⟨[32, 10, 32], rfl, by decide, by unfold Bk; decide, by decide⟩
  · exact ⟨[32], rfl, by decide, by unfold Bk; decide, by decide⟩
theorem pre_ok {v : Int} (h : 0 ≤ v ∧ v < 3) : ∃ s, prim .idx [.lst [.str "", .str " ", .str "\n"], .int v] = some (.val (.str (mkS s))) ∧ Bk s ∧ s.length ≤ 1 := by
  have : v = 0 ∨ v = 1 ∨ v = 2 := by omega
  rcases this with rfl | rfl | rfl
  · exact ⟨[], rfl, by unfold Bk; decide, by decide⟩
  · exact ⟨[32], rfl, by unfold Bk; decide, by decide⟩
  · exact ⟨[10], rfl, by unfold Bk; decide, by decide⟩
theorem post_ok {v : Int} (h : 0 ≤ v ∧ v < 3) : ∃ s, prim .idx [.lst [.str "", .str " ", .str "\n\n"], .int v] = some (.val (.str (mkS s))) ∧ Bk s ∧ s.length ≤ 2 := by
  have : v = 0 ∨ v = 1 ∨ v = 2 := by omega
  rcases this with rfl | rfl | rfl
  · exact ⟨[], rfl, by unfold Bk; decide, by decide⟩
  · exact ⟨[32], rfl, by unfold Bk; decide, by decide⟩
  · exact ⟨[10, 10], rfl, by unfold Bk; decide, by decide⟩
def In (ws : List (List Nat)) (k : Nat) (t : List Nat) : Prop := t.length ≤ 1 + 13 * k ∧ ((k < ws.length ∧ ∀ r, tk [] (t ++ r) = ws.take k ++ tk [] r) ∨ (k = ws.length ∧ ∀ b, Bk b → tk [] (t ++ b) = ws))
theorem spaced_ok (m : Nat) (ws : List (List Nat)) (hn : ws.length ≤ 40) (hw : ∀ w ∈ ws, Wd w) (i : Int) : ∃ t, evF B (m + 1) 4 [.val (.lst ((ws.map mkS).map .str)), .val (.int i)] = some (.val (.str (mkS t)), [some (.val (.lst ((ws.map mkS).map .str))), some (.val (.int i))]) ∧ tk [] t = ws ∧ t.length ≤ 1000 := by
  obtain ⟨p, hp, bp, lp⟩ := pre_ok (v := i % 3) (by omega)
  obtain ⟨q, hq, bq, lq⟩ := post_ok (v := i / 3 % 3) (by omega)
  have plen : prim .len [.lst ((ws.map mkS).map .str)] = some (.val (.int ws.length)) := by
    show oi _ = _
    simp [oi]
  obtain ⟨ρ', hl, t, x3, x4, hin, rfl⟩ := f_all (bd := bindT (.many [3, 4])) (body := evSs B.G B.CL B.W (evF B m) b4_0) (fun k ρ => ∃ t x3 x4, In ws k t ∧ ρ = [some (.val (.lst ((ws.map mkS).map .str))), some (.val (.int i)), some (.val (.str (mkS t))), x3, x4]) (enumL 0 ((ws.map mkS).map .str)) 0 [some (.val (.lst ((ws.map mkS).map .str))), some (.val (.int i)), some (.val (.str (mkS p))), none, none] (by
      refine ⟨p, _, _, ⟨by omega, ?_⟩, rfl⟩
      cases ws with
      | nil => exact .inr ⟨rfl, fun b hb => by
          have := tk_blank (p ++ b) [] fun c hc => (List.mem_append.mp hc).elim (bp c) (hb c)
          rw [List.append_nil] at this
          rw [this]; rfl⟩
      | cons w ws => exact .inl ⟨by simp, fun r => by rw [tk_blank p r bp]; rfl⟩) (by
    rintro j x ρ hx ⟨t, x3, x4, ⟨htl, hin⟩, rfl⟩
    obtain ⟨y, hy, rfl⟩ := enumL_get hx
    rw [List.map_map, List.getElem?_map] at hy
    obtain ⟨w, hw1, rfl⟩ := Option.map_eq_some_iff.mp hy
    have hjl : j < ws.length := (List.getElem?_eq_some_iff.mp hw1).1
    obtain ⟨w0, w10, wf, wa⟩ := hw w (List.mem_of_getElem? hw1)
    have hin : ∀ r, tk [] (t ++ r) = ws.take j ++ tk [] r := by
      rcases hin with hin | hin
      · rw [Nat.zero_add] at hin; exact hin.2
      · omega
    have p1 : prim .add [.str (mkS t), .str (mkS w)] = some (.val (.str (mkS (t ++ w)))) := p_cat (by omega)
    have htk : ws.take (j + 1) = ws.take j ++ [w] := by rw [List.take_succ, hw1]; rfl
    by_cases hlast : j + 1 < ws.length
    · obtain ⟨s, hs, s0, sb, s3⟩ := sep_ok (v := i / 9 % (((0 + j : Nat) : Int) + 2) % 6) (by omega)
      have p2 : prim .add [.str (mkS (t ++ w)), .str (mkS s)] = some (.val (.str (mkS (t ++ w ++ s)))) := p_cat (by simp; omega)
      have plt : prim .lt [.int (((0 + j : Nat) : Int) + 1), .int ws.length] = some (.val (.bl true)) := by
        show some (O.val (EV.D.bl (decide ((((0 + j : Nat) : Int) + 1) < (ws.length : Int))))) = _
        rw [decide_eq_true (by omega)]
      apply stn_mk
      · rfl
      · unfold b4_0
        repeat (first | (focus (with_reducible show getS _ _ = _); rfl) | (focus (with_reducible show ev _ _ _ _ false _ = _); first | with_reducible apply r_var | with_reducible exact r_lit | with_reducible apply r_op | with_reducible apply r_callE | with_reducible apply r_tup | with_reducible apply r_frz | with_reducible apply r_and | with_reducible apply r_or | with_reducible apply r_not | with_reducible apply (r_mop rfl) | with_reducible apply r_mopB | with_reducible apply r_lst | with_reducible apply r_mv | with_reducible apply r_sh | with_reducible apply r_glob | with_reducible apply r_cmp2 | with_reducible apply r_ite | with_reducible apply r_bw | with_reducible apply r_meth | with_reducible apply r_new | with_reducible apply r_pop | with_reducible apply r_popAt | with_reducible exact r_dct | with_reducible exact r_dctT | with_reducible apply r_dctOf) | (focus (with_reducible show ev _ _ _ _ true _ = _); first | with_reducible apply t_op | with_reducible apply t_call | with_reducible apply r_and | with_reducible apply r_or | with_reducible apply r_not | with_reducible apply t_var | with_reducible apply t_bw | with_reducible apply r_cmp2 | with_reducible apply t_mop | with_reducible apply t_meth | with_reducible apply t_lit) | (focus (with_reducible show evO _ _ _ _ _ = _); first | with_reducible apply (o_cons rfl) | with_reducible exact o_nil | with_reducible apply o_bw | rfl) | (focus (with_reducible show prim _ _ = _); first | (focus (with_reducible show prim .mod _ = _); exact p_mod (by omega)) | (focus (with_reducible show prim .fdiv _ = _); exact p_fdiv ⟨by omega, by omega⟩) | (focus (with_reducible show prim .mul _ = _); first | exact p_mul2 ⟨by omega, by omega⟩ | exact p_mul1 ⟨by omega, by omega⟩) | (focus (with_reducible show prim .len _ = _); exact plen) | (focus (with_reducible show prim .lt _ _ = _); exact plt) | (focus (with_reducible show prim .lt _ = _); exact plt) | (focus (with_reducible show prim .idx _ = _); exact hs) | (focus (with_reducible show prim .add _ = _); first | (show prim .add [EV.D.str _, EV.D.str _] = _; first | with_reducible exact p1 | with_reducible exact p2) | rfl) | rfl) | (focus (with_reducible show O.frz _ = _); rfl) | (focus (with_reducible show truth _ = _); rfl) | (focus (with_reducible show evV _ _ _ _ _ = _); first | with_reducible apply v_cons | with_reducible exact v_nil | rfl) | (focus (with_reducible show evS _ _ _ _ _ _ = _); first | with_reducible apply s_asg | with_reducible apply s_ite | with_reducible apply s_ret | with_reducible apply s_for | with_reducible apply s_app | with_reducible apply s_setI | with_reducible apply s_expr | with_reducible apply s_unp | with_reducible apply s_aug | with_reducible apply s_while | with_reducible apply s_ext | with_reducible apply s_rev | with_reducible exact s_retN | with_reducible exact s_pass | with_reducible exact s_brk | with_reducible exact s_cont) | (focus (with_reducible show evSs _ _ _ _ _ _ = _); first | with_reducible apply ss_cons | with_reducible exact ss_nil | rfl) | (focus (with_reducible show flK _ _ _ = _); first | with_reducible apply fl_nx | with_reducible exact fl_rt | with_reducible exact fl_bk | with_reducible exact fl_ct | exact fl_rt) | (focus (with_reducible show evA _ _ _ _ _ = _); first | with_reducible apply (a_cons rfl) | with_reducible apply a_rf | with_reducible exact a_nil | with_reducible apply a_fr | rfl) | (focus (with_reducible show takeA _ _ _ = _); rfl) | (focus (with_reducible show giveA _ _ _ = _); rfl) | ((with_reducible apply cond_t); focus (first | rfl | assumption | (simp [*]; done))) | ((with_reducible apply cond_f); focus (first | rfl | assumption | (simp [*]; done))) | (focus (with_reducible show rcv _ _ = _); rfl) | (focus (with_reducible show iterD _ _ = _); rfl) | (focus (with_reducible show plainS _ _ = _); rfl) | (focus (with_reducible show bindT _ _ _ = _); rfl) | (focus (with_reducible show setO _ _ _ _ = _); rfl) | (focus (with_reducible show getElem? _ _ = _); rfl) | (focus (with_reducible show some _ = some _); rfl) | (focus (with_reducible show fgK _ _ _ = _); first | with_reducible apply fg_nx | with_reducible apply fg_ct | with_reducible exact fg_bk | with_reducible exact fg_rt | exact fg_rt) | (focus (with_reducible show forGo _ _ _ _ = _); first | with_reducible exact f_nil | with_reducible apply f_cons) | (focus (with_reducible show _ ≤ sizeLine); first | exact sz_le rfl | exact sz_leO (by first | omega | (simp; done) | (simp; omega))) | (focus (with_reducible show _ < sizeLine); first | exact sz_lt rfl | exact sz_ltO (by first | omega | (simp; done) | (simp; omega))) | (focus (with_reducible show ixN _ _ = _); first | exact ix0 | rfl) | (focus (with_reducible show -(2 ^ 63) ≤ _ ∧ _ < 2 ^ 63); exact ⟨by omega, by omega⟩) | with_reducible apply r_cmp2z | (focus (with_reducible show List.length _ = _); rfl) | (focus (with_reducible show List.getLast? _ = _); rfl))
      · refine ⟨t ++ w ++ s, _, _, ⟨by simp; omega, .inl ⟨by omega, fun r => ?_⟩⟩, rfl⟩
        rw [Nat.zero_add, htk, List.append_assoc, List.append_assoc, hin, tk_sep wf w0 sb s0]
        simp
    · have plt : prim .lt [.int (((0 + j : Nat) : Int) + 1), .int ws.length] = some (.val (.bl false)) := by
        show some (O.val (EV.D.bl (decide ((((0 + j : Nat) : Int) + 1) < (ws.length : Int))))) = _
        rw [decide_eq_false (by omega)]
      apply stn_mk
      · rfl
      · unfold b4_0
        repeat (first | (focus (with_reducible show getS _ _ = _); rfl) | (focus (with_reducible show ev _ _ _ _ false _ = _); first | with_reducible apply r_var | with_reducible exact r_lit | with_reducible apply r_op | with_reducible apply r_callE | with_reducible apply r_tup | with_reducible apply r_frz | with_reducible apply r_and | with_reducible apply r_or | with_reducible apply r_not | with_reducible apply (r_mop rfl) | with_reducible apply r_mopB | with_reducible apply r_lst | with_reducible apply r_mv | with_reducible apply r_sh | with_reducible apply r_glob | with_reducible apply r_cmp2 | with_reducible apply r_ite | with_reducible apply r_bw | with_reducible apply r_meth | with_reducible apply r_new | with_reducible apply r_pop | with_reducible apply r_popAt | with_reducible exact r_dct | with_reducible exact r_dctT | with_reducible apply r_dctOf) | (focus (with_reducible show ev _ _ _ _ true _ = _); first | with_reducible apply t_op | with_reducible apply t_call | with_reducible apply r_and | with_reducible apply r_or | with_reducible apply r_not | with_reducible apply t_var | with_reducible apply t_bw | with_reducible apply r_cmp2 | with_reducible apply t_mop | with_reducible apply t_meth | with_reducible apply t_lit) | (focus (with_reducible show evO _ _ _ _ _ = _); first | with_reducible apply (o_cons rfl) | with_reducible exact o_nil | with_reducible apply o_bw | rfl) | (focus (with_reducible show prim _ _ = _); first | (focus (with_reducible show prim .mod _ = _); exact p_mod (by omega)) | (focus (with_reducible show prim .fdiv _ = _); exact p_fdiv ⟨by omega, by omega⟩) | (focus (with_reducible show prim .mul _ = _); first | exact p_mul2 ⟨by omega, by omega⟩ | exact p_mul1 ⟨by omega, by omega⟩) | (focus (with_reducible show prim .len _ = _); exact plen) | (focus (with_reducible show prim .lt _ = _); exact plt) | (focus (with_reducible show prim .add _ = _); first | (show prim .add [EV.D.str _, EV.D.str _] = _; with_reducible exact p1) | rfl) | rfl) | (focus (with_reducible show O.frz _ = _); rfl) | (focus (with_reducible show truth _ = _); rfl) | (focus (with_reducible show evV _ _ _ _ _ = _); first | with_reducible apply v_cons | with_reducible exact v_nil | rfl) | (focus (with_reducible show evS _ _ _ _ _ _ = _); first | with_reducible apply s_asg | with_reducible apply s_ite | with_reducible apply s_ret | with_reducible apply s_for | with_reducible apply s_app | with_reducible apply s_setI | with_reducible apply s_expr | with_reducible apply s_unp | with_reducible apply s_aug | with_reducible apply s_while | with_reducible apply s_ext | with_reducible apply s_rev | with_reducible exact s_retN | with_reducible exact s_pass | with_reducible exact s_brk | with_reducible exact s_cont) | (focus (with_reducible show evSs _ _ _ _ _ _ = _); first | with_reducible apply ss_cons | with_reducible exact ss_nil | rfl) | (focus (with_reducible show flK _ _ _ = _); first | with_reducible apply fl_nx | with_reducible exact fl_rt | with_reducible exact fl_bk | with_reducible exact fl_ct | exact fl_rt) | (focus (with_reducible show evA _ _ _ _ _ = _); first | with_reducible apply (a_cons rfl) | with_reducible apply a_rf | with_reducible exact a_nil | with_reducible apply a_fr | rfl) | (focus (with_reducible show takeA _ _ _ = _); rfl) | (focus (with_reducible show giveA _ _ _ = _); rfl) | ((with_reducible apply cond_t); focus (first | rfl | assumption | (simp [*]; done))) | ((with_reducible apply cond_f); focus (first | rfl | assumption | (simp [*]; done))) | (focus (with_reducible show rcv _ _ = _); rfl) | (focus (with_reducible show iterD _ _ = _); rfl) | (focus (with_reducible show plainS _ _ = _); rfl) | (focus (with_reducible show bindT _ _ _ = _); rfl) | (focus (with_reducible show setO _ _ _ _ = _); rfl) | (focus (with_reducible show getElem? _ _ = _); rfl) | (focus (with_reducible show some _ = some _); rfl) | (focus (with_reducible show fgK _ _ _ = _); first | with_reducible apply fg_nx | with_reducible apply fg_ct | with_reducible exact fg_bk | with_reducible exact fg_rt | exact fg_rt) | (focus (with_reducible show forGo _ _ _ _ = _); first | with_reducible exact f_nil | with_reducible apply f_cons) | (focus (with_reducible show _ ≤ sizeLine); first | exact sz_le rfl | exact sz_leO (by first | omega | (simp; done) | (simp; omega))) | (focus (with_reducible show _ < sizeLine); first | exact sz_lt rfl | exact sz_ltO (by first | omega | (simp; done) | (simp; omega))) | (focus (with_reducible show ixN _ _ = _); first | exact ix0 | rfl) | (focus (with_reducible show -(2 ^ 63) ≤ _ ∧ _ < 2 ^ 63); exact ⟨by omega, by omega⟩) | with_reducible apply r_cmp2z | (focus (with_reducible show List.length _ = _); rfl) | (focus (with_reducible show List.getLast? _ = _); rfl))
      · refine ⟨t ++ w, _, _, ⟨by simp; omega, .inr ⟨by omega, fun b hb => ?_⟩⟩, rfl⟩
        rw [List.append_assoc, hin, tk_word w [] b wf, List.nil_append, tk_end b w hb w0, ← htk, show j + 1 = ws.length by omega, List.take_length])
  have hlen : (enumL 0 ((ws.map mkS).map EV.D.str)).length = ws.length := by rw [enumL_len]; simp
  rw [hlen, Nat.zero_add] at hin
  obtain ⟨h1, h2 | h2⟩ := hin
  · omega
  have pe : prim .add [.str (mkS t), .str (mkS q)] = some (.val (.str (mkS (t ++ q)))) := p_cat (by omega)
  refine ⟨t ++ q, ?_, h2.2 q bq, by simp; omega⟩
  apply r_fn (F := ⟨2, 5, none, b4⟩) rfl rfl
  · unfold b4
    dsimp only
    repeat (first | (focus (with_reducible show getS _ _ = _); rfl) | (focus (with_reducible show ev _ _ _ _ false _ = _); first | with_reducible apply r_var | with_reducible exact r_lit | with_reducible apply r_op | with_reducible apply r_callE | with_reducible apply r_tup | with_reducible apply r_frz | with_reducible apply r_and | with_reducible apply r_or | with_reducible apply r_not | with_reducible apply (r_mop rfl) | with_reducible apply r_mopB | with_reducible apply r_lst | with_reducible apply r_mv | with_reducible apply r_sh | with_reducible apply r_glob | with_reducible apply r_cmp2 | with_reducible apply r_ite | with_reducible apply r_bw | with_reducible apply r_meth | with_reducible apply r_new | with_reducible apply r_pop | with_reducible apply r_popAt | with_reducible exact r_dct | with_reducible exact r_dctT | with_reducible apply r_dctOf) | (focus (with_reducible show ev _ _ _ _ true _ = _); first | with_reducible apply t_op | with_reducible apply t_call | with_reducible apply r_and | with_reducible apply r_or | with_reducible apply r_not | with_reducible apply t_var | with_reducible apply t_bw | with_reducible apply r_cmp2 | with_reducible apply t_mop | with_reducible apply t_meth | with_reducible apply t_lit) | (focus (with_reducible show evO _ _ _ _ _ = _); first | with_reducible apply (o_cons rfl) | with_reducible exact o_nil | with_reducible apply o_bw | rfl) | (focus (with_reducible show prim _ _ = _); first | (focus (with_reducible show prim .mod _ = _); exact p_mod (by omega)) | (focus (with_reducible show prim .fdiv _ = _); exact p_fdiv ⟨by omega, by omega⟩) | (focus (with_reducible show prim .mul _ = _); first | exact p_mul2 ⟨by omega, by omega⟩ | exact p_mul1 ⟨by omega, by omega⟩) | (focus (with_reducible show prim .idx _ = _); first | exact hp | exact hq) | (focus (with_reducible show prim .add _ = _); exact pe) | rfl) | (focus (with_reducible show O.frz _ = _); rfl) | (focus (with_reducible show truth _ = _); rfl) | (focus (with_reducible show evV _ _ _ _ _ = _); first | with_reducible apply v_cons | with_reducible exact v_nil | rfl) | (focus (with_reducible show evS _ _ _ _ _ _ = _); first | with_reducible apply s_asg | with_reducible apply s_ite | with_reducible apply s_ret | with_reducible apply s_for | with_reducible apply s_app | with_reducible apply s_setI | with_reducible apply s_expr | with_reducible apply s_unp | with_reducible apply s_aug | with_reducible apply s_while | with_reducible apply s_ext | with_reducible apply s_rev | with_reducible exact s_retN | with_reducible exact s_pass | with_reducible exact s_brk | with_reducible exact s_cont) | (focus (with_reducible show evSs _ _ _ _ _ _ = _); first | with_reducible apply ss_cons | with_reducible exact ss_nil | rfl) | (focus (with_reducible show flK _ _ _ = _); first | with_reducible apply fl_nx | with_reducible exact fl_rt | with_reducible exact fl_bk | with_reducible exact fl_ct | exact fl_rt) | (focus (with_reducible show evA _ _ _ _ _ = _); first | with_reducible apply (a_cons rfl) | with_reducible apply a_rf | with_reducible exact a_nil | with_reducible apply a_fr | rfl) | (focus (with_reducible show takeA _ _ _ = _); rfl) | (focus (with_reducible show giveA _ _ _ = _); rfl) | ((with_reducible apply cond_t); focus (first | rfl | assumption | (simp [*]; done))) | ((with_reducible apply cond_f); focus (first | rfl | assumption | (simp [*]; done))) | (focus (with_reducible show forGo _ _ _ _ = _); exact hl) | (focus (with_reducible show rcv _ _ = _); rfl) | (focus (with_reducible show iterD _ _ = _); rfl) | (focus (with_reducible show plainS _ _ = _); rfl) | (focus (with_reducible show bindT _ _ _ = _); rfl) | (focus (with_reducible show setO _ _ _ _ = _); rfl) | (focus (with_reducible show getElem? _ _ = _); rfl) | (focus (with_reducible show some _ = some _); rfl) | (focus (with_reducible show fgK _ _ _ = _); first | with_reducible apply fg_nx | with_reducible apply fg_ct | with_reducible exact fg_bk | with_reducible exact fg_rt | exact fg_rt) | (focus (with_reducible show forGo _ _ _ _ = _); first | with_reducible exact f_nil | with_reducible apply f_cons) | (focus (with_reducible show _ ≤ sizeLine); first | exact sz_le rfl | exact sz_leO (by first | omega | (simp; done) | (simp; omega))) | (focus (with_reducible show _ < sizeLine); first | exact sz_lt rfl | exact sz_ltO (by first | omega | (simp; done) | (simp; omega))) | (focus (with_reducible show ixN _ _ = _); first | exact ix0 | rfl) | (focus (with_reducible show -(2 ^ 63) ≤ _ ∧ _ < 2 ^ 63); exact ⟨by omega, by omega⟩) | with_reducible apply r_cmp2z | (focus (with_reducible show List.length _ = _); rfl) | (focus (with_reducible show List.getLast? _ = _); rfl))
  · rfl

theorem asc_of {l : List Nat} (h : ∀ c ∈ l, c < 1114112) : Asc l := h
/-- a word is told as is due -/
theorem same_word (m : Nat) (hm : 3 ≤ m) (l : List Nat) (hl : l.length ≤ 1000) (ha : Asc l) : ∃ o1 o2, evF B m 6 [.val (.str (mkS l))] = some (.val o1, [some (.val (.str (mkS l)))]) ∧ evF B m 7 [.val (.str (mkS l))] = some (o2, [some (.val (.str (mkS l)))]) ∧ prim .ne [o1, o2.frz] = some (.val (.bl false)) :=
  ⟨_, _, told_ok m hm l hl, due_ok m (by omega) l hl ha, p_tri _ _ _⟩
theorem sign_words (m : Nat) (hm : 3 ≤ m) (c : Nat) (hb : blk c = false) (hc : c < 1114112) (y : Option O) : ∃ y', evSs B.G B.CL B.W (evF B m) b8_1 [some (.val (.str (mkS [c]))), y] = some (.nx, [some (.val (.str (mkS [c]))), y']) := by
  have h1 : Asc [c] := fun x hx => by simp at hx; omega
  obtain ⟨ρ', hl, y', rfl⟩ := f_st (bd := bindT (.one 1)) (body := evSs B.G B.CL B.W (evF B m) b8_0) (fun ρ => ∃ y, ρ = [some (.val (.str (mkS [c]))), y]) [.str (mkS [c]), .str (mkS [97, c]), .str (mkS [65, c]), .str (mkS [97, 98, c, 99])] [some (.val (.str (mkS [c]))), y] ⟨_, rfl⟩ (by
    rintro x hx ρ ⟨y, rfl⟩
    have hx : ∃ l, x = .str (mkS l) ∧ l.length ≤ 1000 ∧ Asc l := by
      simp only [List.mem_cons, List.not_mem_nil, or_false] at hx
      rcases hx with rfl | rfl | rfl | rfl
      · exact ⟨_, rfl, by simp, h1⟩
      · exact ⟨_, rfl, by simp, fun x hx => by simp at hx; omega⟩
      · exact ⟨_, rfl, by simp, fun x hx => by simp at hx; omega⟩
      · exact ⟨_, rfl, by simp, fun x hx => by simp at hx; omega⟩
    obtain ⟨l, rfl, hl, ha⟩ := hx
    obtain ⟨o1, o2, t1, t2, t3⟩ := same_word m hm l hl ha
    apply st_mk
    · rfl
    · unfold b8_0
      repeat (first | (focus (with_reducible show getS _ _ = _); rfl) | (focus (with_reducible show ev _ _ _ _ false _ = _); first | with_reducible apply r_var | with_reducible exact r_lit | with_reducible apply r_op | with_reducible apply r_callE | with_reducible apply r_tup | with_reducible apply r_frz | with_reducible apply r_and | with_reducible apply r_or | with_reducible apply r_not | with_reducible apply (r_mop rfl) | with_reducible apply r_mopB | with_reducible apply r_lst | with_reducible apply r_mv | with_reducible apply r_sh | with_reducible apply r_glob | with_reducible apply r_cmp2 | with_reducible apply r_ite | with_reducible apply r_bw | with_reducible apply r_meth | with_reducible apply r_new | with_reducible apply r_pop | with_reducible apply r_popAt | with_reducible exact r_dct | with_reducible exact r_dctT | with_reducible apply r_dctOf) | (focus (with_reducible show ev _ _ _ _ true _ = _); first | with_reducible apply t_op | with_reducible apply t_call | with_reducible apply r_and | with_reducible apply r_or | with_reducible apply r_not | with_reducible apply t_var | with_reducible apply t_bw | with_reducible apply r_cmp2 | with_reducible apply t_mop | with_reducible apply t_meth | with_reducible apply t_lit) | (focus (with_reducible show evO _ _ _ _ _ = _); first | with_reducible apply (o_cons rfl) | with_reducible exact o_nil | with_reducible apply o_bw | rfl) | (focus (with_reducible show prim _ _ = _); first | (focus (with_reducible show prim .mod _ = _); exact p_mod (by omega)) | (focus (with_reducible show prim .fdiv _ = _); exact p_fdiv ⟨by omega, by omega⟩) | (focus (with_reducible show prim .mul _ = _); first | exact p_mul2 ⟨by omega, by omega⟩ | exact p_mul1 ⟨by omega, by omega⟩) | (focus (with_reducible show prim .ne _ = _); exact t3) | rfl) | (focus (with_reducible show O.frz _ = _); rfl) | (focus (with_reducible show truth _ = _); rfl) | (focus (with_reducible show evV _ _ _ _ _ = _); first | with_reducible apply v_cons | with_reducible exact v_nil | rfl) | (focus (with_reducible show evS _ _ _ _ _ _ = _); first | with_reducible apply s_asg | with_reducible apply s_ite | with_reducible apply s_ret | with_reducible apply s_for | with_reducible apply s_app | with_reducible apply s_setI | with_reducible apply s_expr | with_reducible apply s_unp | with_reducible apply s_aug | with_reducible apply s_while | with_reducible apply s_ext | with_reducible apply s_rev | with_reducible exact s_retN | with_reducible exact s_pass | with_reducible exact s_brk | with_reducible exact s_cont) | (focus (with_reducible show evSs _ _ _ _ _ _ = _); first | with_reducible apply ss_cons | with_reducible exact ss_nil | rfl) | (focus (with_reducible show flK _ _ _ = _); first | with_reducible apply fl_nx | with_reducible exact fl_rt | with_reducible exact fl_bk | with_reducible exact fl_ct | exact fl_rt) | (focus (with_reducible show evA _ _ _ _ _ = _); first | with_reducible apply (a_cons rfl) | with_reducible apply a_rf | with_reducible exact a_nil | with_reducible apply a_fr | rfl) | (focus (with_reducible show evF _ _ _ _ = _); first | (focus (with_reducible show evF _ _ 6 _ = _);  exact t1) | (focus (with_reducible show evF _ _ 7 _ = _);  exact t2)) | (focus (with_reducible show takeA _ _ _ = _); rfl) | (focus (with_reducible show giveA _ _ _ = _); rfl) | ((with_reducible apply cond_t); focus (first | rfl | assumption | (simp [*]; done))) | ((with_reducible apply cond_f); focus (first | rfl | assumption | (simp [*]; done))) | (focus (with_reducible show rcv _ _ = _); rfl) | (focus (with_reducible show iterD _ _ = _); rfl) | (focus (with_reducible show plainS _ _ = _); rfl) | (focus (with_reducible show bindT _ _ _ = _); rfl) | (focus (with_reducible show setO _ _ _ _ = _); rfl) | (focus (with_reducible show getElem? _ _ = _); rfl) | (focus (with_reducible show some _ = some _); rfl) | (focus (with_reducible show fgK _ _ _ = _); first | with_reducible apply fg_nx | with_reducible apply fg_ct | with_reducible exact fg_bk | with_reducible exact fg_rt | exact fg_rt) | (focus (with_reducible show forGo _ _ _ _ = _); first | with_reducible exact f_nil | with_reducible apply f_cons) | (focus (with_reducible show _ ≤ sizeLine); first | exact sz_le rfl | exact sz_leO (by first | omega | (simp; done) | (simp; omega))) | (focus (with_reducible show _ < sizeLine); first | exact sz_lt rfl | exact sz_ltO (by first | omega | (simp; done) | (simp; omega))) | (focus (with_reducible show ixN _ _ = _); first | exact ix0 | rfl) | (focus (with_reducible show -(2 ^ 63) ≤ _ ∧ _ < 2 ^ 63); exact ⟨by omega, by omega⟩) | with_reducible apply r_cmp2z | (focus (with_reducible show List.length _ = _); rfl) | (focus (with_reducible show List.getLast? _ = _); rfl))
    · exact ⟨_, rfl⟩)
  have a1 : prim .add [.str (mkS [c]), .str " a"] = some (.val (.str (mkS [c, 32, 97]))) := p_cat (a := [c]) (b := [32, 97]) (by simp)
  have a2 : prim .add [.str (mkS [c, 32, 97]), .str (mkS [c])] = some (.val (.str (mkS [c, 32, 97, c]))) := p_cat (by simp)
  have a3 : prim .add [.str (mkS [c, 32, 97, c]), .str "b\n"] = some (.val (.str (mkS [c, 32, 97, c, 98, 10]))) := p_cat (a := [c, 32, 97, c]) (b := [98, 10]) (by simp)
  have a4 : prim .add [.str (mkS [c, 32, 97, c, 98, 10]), .str (mkS [c])] = some (.val (.str (mkS [c, 32, 97, c, 98, 10, c]))) := p_cat (by simp)
  have b1 : prim .add [.str "a", .str (mkS [c])] = some (.val (.str (mkS [97, c]))) := p_cat (a := [97]) (b := [c]) (by simp)
  have b2 : prim .add [.str (mkS [97, c]), .str "b"] = some (.val (.str (mkS [97, c, 98]))) := p_cat (a := [97, c]) (b := [98]) (by simp)
  have c1 : prim .add [.str "A", .str (mkS [c])] = some (.val (.str (mkS [65, c]))) := p_cat (a := [65]) (b := [c]) (by simp)
  have d1 : prim .add [.str "ab", .str (mkS [c])] = some (.val (.str (mkS [97, 98, c]))) := p_cat (a := [97, 98]) (b := [c]) (by simp)
  have d2 : prim .add [.str (mkS [97, 98, c]), .str "c"] = some (.val (.str (mkS [97, 98, c, 99]))) := p_cat (a := [97, 98, c]) (b := [99]) (by simp)
  obtain ⟨m, rfl⟩ : ∃ k, m = k + 1 := ⟨m - 1, by omega⟩
  have hw := words_f m [c, 32, 97, c, 98, 10, c] (by simp)
  have ht : tk [] [c, 32, 97, c, 98, 10, c] = [[c], [97, c, 98], [c]] := by
    have e32 : blk 32 = true := rfl
    have e10 : blk 10 = true := rfl
    have e97 : blk 97 = false := rfl
    have e98 : blk 98 = false := rfl
    simp [tk, hb, e32, e10, e97, e98]
  rw [ht] at hw
  have hne : prim .ne [.lst (([[c], [97, c, 98], [c]].map mkS).map .str), .lst [.str (mkS [c]), .str (mkS [97, c, 98]), .str (mkS [c])]] = some (.val (.bl false)) := by
    have ok : ∀ s ∈ [mkS [c], mkS [97, c, 98], mkS [c]], PyData.strOk s = true := by
      intro s hs
      simp only [List.mem_cons, List.not_mem_nil, or_false] at hs
      rcases hs with rfl | rfl | rfl
      · exact asc_ok h1
      · exact asc_ok fun x hx => by simp at hx; omega
      · exact asc_ok h1
    have := p_neStrs ok ok
    simpa using this
  refine ⟨y', ?_⟩
  unfold b8_1
  repeat (first | (focus (with_reducible show getS _ _ = _); rfl) | (focus (with_reducible show ev _ _ _ _ false _ = _); first | with_reducible apply r_var | with_reducible exact r_lit | with_reducible apply r_op | with_reducible apply r_callE | with_reducible apply r_tup | with_reducible apply r_frz | with_reducible apply r_and | with_reducible apply r_or | with_reducible apply r_not | with_reducible apply (r_mop rfl) | with_reducible apply r_mopB | with_reducible apply r_lst | with_reducible apply r_mv | with_reducible apply r_sh | with_reducible apply r_glob | with_reducible apply r_cmp2 | with_reducible apply r_ite | with_reducible apply r_bw | with_reducible apply r_meth | with_reducible apply r_new | with_reducible apply r_pop | with_reducible apply r_popAt | with_reducible exact r_dct | with_reducible exact r_dctT | with_reducible apply r_dctOf) | (focus (with_reducible show ev _ _ _ _ true _ = _); first | with_reducible apply t_op | with_reducible apply t_call | with_reducible apply r_and | with_reducible apply r_or | with_reducible apply r_not | with_reducible apply t_var | with_reducible apply t_bw | with_reducible apply r_cmp2 | with_reducible apply t_mop | with_reducible apply t_meth | with_reducible apply t_lit) | (focus (with_reducible show evO _ _ _ _ _ = _); first | with_reducible apply (o_cons rfl) | with_reducible exact o_nil | with_reducible apply o_bw | rfl) | (focus (with_reducible show prim _ _ = _); first | (focus (with_reducible show prim .mod _ = _); exact p_mod (by omega)) | (focus (with_reducible show prim .fdiv _ = _); exact p_fdiv ⟨by omega, by omega⟩) | (focus (with_reducible show prim .mul _ = _); first | exact p_mul2 ⟨by omega, by omega⟩ | exact p_mul1 ⟨by omega, by omega⟩) | (focus (with_reducible show prim .ne _ = _); exact hne) | (focus (with_reducible show prim .add _ = _); show prim .add [EV.D.str _, EV.D.str _] = _; first | with_reducible exact a1 | with_reducible exact a2 | with_reducible exact a3 | with_reducible exact a4 | with_reducible exact b1 | with_reducible exact b2 | with_reducible exact c1 | with_reducible exact d1 | with_reducible exact d2) | rfl) | (focus (with_reducible show O.frz _ = _); rfl) | (focus (with_reducible show truth _ = _); rfl) | (focus (with_reducible show evV _ _ _ _ _ = _); first | with_reducible apply v_cons | with_reducible exact v_nil | rfl) | (focus (with_reducible show evS _ _ _ _ _ _ = _); first | with_reducible apply s_asg | with_reducible apply s_ite | with_reducible apply s_ret | with_reducible apply s_for | with_reducible apply s_app | with_reducible apply s_setI | with_reducible apply s_expr | with_reducible apply s_unp | with_reducible apply s_aug | with_reducible apply s_while | with_reducible apply s_ext | with_reducible apply s_rev | with_reducible exact s_retN | with_reducible exact s_pass | with_reducible exact s_brk | with_reducible exact s_cont) | (focus (with_reducible show evSs _ _ _ _ _ _ = _); first | with_reducible apply ss_cons | with_reducible exact ss_nil | rfl) | (focus (with_reducible show flK _ _ _ = _); first | with_reducible apply fl_nx | with_reducible exact fl_rt | with_reducible exact fl_bk | with_reducible exact fl_ct | exact fl_rt) | (focus (with_reducible show evA _ _ _ _ _ = _); first | with_reducible apply (a_cons rfl) | with_reducible apply a_rf | with_reducible exact a_nil | with_reducible apply a_fr | rfl) | (focus (with_reducible show evF _ _ _ _ = _); first | (focus (with_reducible show evF _ _ 5 _ = _);  exact hw)) | (focus (with_reducible show takeA _ _ _ = _); rfl) | (focus (with_reducible show giveA _ _ _ = _); rfl) | ((with_reducible apply cond_t); focus (first | rfl | assumption | (simp [*]; done))) | ((with_reducible apply cond_f); focus (first | rfl | assumption | (simp [*]; done))) | (focus (with_reducible show forGo _ _ _ _ = _); exact hl) | (focus (with_reducible show rcv _ _ = _); rfl) | (focus (with_reducible show iterD _ _ = _); rfl) | (focus (with_reducible show plainS _ _ = _); rfl) | (focus (with_reducible show bindT _ _ _ = _); rfl) | (focus (with_reducible show setO _ _ _ _ = _); rfl) | (focus (with_reducible show getElem? _ _ = _); rfl) | (focus (with_reducible show some _ = some _); rfl) | (focus (with_reducible show fgK _ _ _ = _); first | with_reducible apply fg_nx | with_reducible apply fg_ct | with_reducible exact fg_bk | with_reducible exact fg_rt | exact fg_rt) | (focus (with_reducible show forGo _ _ _ _ = _); first | with_reducible exact f_nil | with_reducible apply f_cons) | (focus (with_reducible show _ ≤ sizeLine); first | exact sz_le rfl | exact sz_leO (by first | omega | (simp; done) | (simp; omega))) | (focus (with_reducible show _ < sizeLine); first | exact sz_lt rfl | exact sz_ltO (by first | omega | (simp; done) | (simp; omega))) | (focus (with_reducible show ixN _ _ = _); first | exact ix0 | rfl) | (focus (with_reducible show -(2 ^ 63) ≤ _ ∧ _ < 2 ^ 63); exact ⟨by omega, by omega⟩) | with_reducible apply r_cmp2z | (focus (with_reducible show List.length _ = _); rfl) | (focus (with_reducible show List.getLast? _ = _); rfl))
theorem signs_right (m : Nat) (hm : 3 ≤ m) : ∃ ps, evF B (m + 1) 8 [] = some (.val (.bl true), ps) := by
  obtain ⟨ρ', hl, x', y', rfl⟩ := f_st (bd := bindT (.one 0)) (body := evSs B.G B.CL B.W (evF B m) b8_1) (fun ρ => ∃ x y, ρ = [x, y]) (sgnS.cps.toList.map fun c => .str (mkS [c])) [none, none] ⟨_, _, rfl⟩ (by
    rintro x hx ρ ⟨x0, y, rfl⟩
    obtain ⟨c, hc, rfl⟩ := List.mem_map.mp hx
    have hf := sgn_free c hc
    obtain ⟨y', h⟩ := sign_words m hm c hf.1 hf.2 y
    exact st_mk rfl h ⟨_, _, rfl⟩)
  obtain ⟨ps, hs⟩ := signs_ok (m - 1)
  rw [show m - 1 + 1 = m by omega] at hs
  have hi : iterD .plain [.str sgnS] = some (sgnS.cps.toList.map fun c => .str (mkS [c])) := rfl
  refine ⟨[], ?_⟩
  apply r_fn (F := ⟨0, 2, none, b8⟩) rfl rfl
  · unfold b8
    dsimp only
    repeat (first | (focus (with_reducible show getS _ _ = _); rfl) | (focus (with_reducible show ev _ _ _ _ false _ = _); first | with_reducible apply r_var | with_reducible exact r_lit | with_reducible apply r_op | with_reducible apply r_callE | with_reducible apply r_tup | with_reducible apply r_frz | with_reducible apply r_and | with_reducible apply r_or | with_reducible apply r_not | with_reducible apply (r_mop rfl) | with_reducible apply r_mopB | with_reducible apply r_lst | with_reducible apply r_mv | with_reducible apply r_sh | with_reducible apply r_glob | with_reducible apply r_cmp2 | with_reducible apply r_ite | with_reducible apply r_bw | with_reducible apply r_meth | with_reducible apply r_new | with_reducible apply r_pop | with_reducible apply r_popAt | with_reducible exact r_dct | with_reducible exact r_dctT | with_reducible apply r_dctOf) | (focus (with_reducible show ev _ _ _ _ true _ = _); first | with_reducible apply t_op | with_reducible apply t_call | with_reducible apply r_and | with_reducible apply r_or | with_reducible apply r_not | with_reducible apply t_var | with_reducible apply t_bw | with_reducible apply r_cmp2 | with_reducible apply t_mop | with_reducible apply t_meth | with_reducible apply t_lit) | (focus (with_reducible show evO _ _ _ _ _ = _); first | with_reducible apply (o_cons rfl) | with_reducible exact o_nil | with_reducible apply o_bw | rfl) | (focus (with_reducible show prim _ _ = _); first | (focus (with_reducible show prim .mod _ = _); exact p_mod (by omega)) | (focus (with_reducible show prim .fdiv _ = _); exact p_fdiv ⟨by omega, by omega⟩) | (focus (with_reducible show prim .mul _ = _); first | exact p_mul2 ⟨by omega, by omega⟩ | exact p_mul1 ⟨by omega, by omega⟩) | rfl) | (focus (with_reducible show O.frz _ = _); rfl) | (focus (with_reducible show truth _ = _); rfl) | (focus (with_reducible show evV _ _ _ _ _ = _); first | with_reducible apply v_cons | with_reducible exact v_nil | rfl) | (focus (with_reducible show evS _ _ _ _ _ _ = _); first | with_reducible apply s_asg | with_reducible apply s_ite | with_reducible apply s_ret | with_reducible apply s_for | with_reducible apply s_app | with_reducible apply s_setI | with_reducible apply s_expr | with_reducible apply s_unp | with_reducible apply s_aug | with_reducible apply s_while | with_reducible apply s_ext | with_reducible apply s_rev | with_reducible exact s_retN | with_reducible exact s_pass | with_reducible exact s_brk | with_reducible exact s_cont) | (focus (with_reducible show evSs _ _ _ _ _ _ = _); first | with_reducible apply ss_cons | with_reducible exact ss_nil | rfl) | (focus (with_reducible show flK _ _ _ = _); first | with_reducible apply fl_nx | with_reducible exact fl_rt | with_reducible exact fl_bk | with_reducible exact fl_ct | exact fl_rt) | (focus (with_reducible show evA _ _ _ _ _ = _); first | with_reducible apply (a_cons rfl) | with_reducible apply a_rf | with_reducible exact a_nil | with_reducible apply a_fr | rfl) | (focus (with_reducible show evF _ _ _ _ = _); first | (focus (with_reducible show evF _ _ 11 _ = _);  exact hs)) | (focus (with_reducible show takeA _ _ _ = _); rfl) | (focus (with_reducible show giveA _ _ _ = _); rfl) | ((with_reducible apply cond_t); focus (first | rfl | assumption | (simp [*]; done))) | ((with_reducible apply cond_f); focus (first | rfl | assumption | (simp [*]; done))) | (focus (with_reducible show forGo _ _ _ _ = _); exact hl) | (focus (with_reducible show iterD .plain _ = _); exact hi) | (focus (with_reducible show rcv _ _ = _); rfl) | (focus (with_reducible show iterD _ _ = _); rfl) | (focus (with_reducible show plainS _ _ = _); rfl) | (focus (with_reducible show bindT _ _ _ = _); rfl) | (focus (with_reducible show setO _ _ _ _ = _); rfl) | (focus (with_reducible show getElem? _ _ = _); rfl) | (focus (with_reducible show some _ = some _); rfl) | (focus (with_reducible show fgK _ _ _ = _); first | with_reducible apply fg_nx | with_reducible apply fg_ct | with_reducible exact fg_bk | with_reducible exact fg_rt | exact fg_rt) | (focus (with_reducible show forGo _ _ _ _ = _); first | with_reducible exact f_nil | with_reducible apply f_cons) | (focus (with_reducible show _ ≤ sizeLine); first | exact sz_le rfl | exact sz_leO (by first | omega | (simp; done) | (simp; omega))) | (focus (with_reducible show _ < sizeLine); first | exact sz_lt rfl | exact sz_ltO (by first | omega | (simp; done) | (simp; omega))) | (focus (with_reducible show ixN _ _ = _); first | exact ix0 | rfl) | (focus (with_reducible show -(2 ^ 63) ≤ _ ∧ _ < 2 ^ 63); exact ⟨by omega, by omega⟩) | with_reducible apply r_cmp2z | (focus (with_reducible show List.length _ = _); rfl) | (focus (with_reducible show List.getLast? _ = _); rfl))
  · rfl
theorem no_text (m : Nat) (hm : 2 ≤ m) {d : EV.D} (h : isTy1 0 d = false) : evF B m 6 [.val d] = some (.val (tri false false false), [some (.val d)]) := by
  obtain ⟨m, rfl⟩ : ∃ k, m = k + 2 := ⟨m - 2, by omega⟩
  have hp : prim (.isi [0]) [d] = some (.val (.bl false)) := by
    show ob _ = _
    simp [ob, h]
  refine told_by (m + 1) ?_ ?_ ?_
  · apply r_fn (F := ⟨1, 1, none, b12⟩) rfl rfl
    · unfold b12
      dsimp only
      repeat (first | (focus (with_reducible show getS _ _ = _); rfl) | (focus (with_reducible show ev _ _ _ _ false _ = _); first | with_reducible apply r_var | with_reducible exact r_lit | with_reducible apply r_op | with_reducible apply r_callE | with_reducible apply r_tup | with_reducible apply r_frz | with_reducible apply r_and | with_reducible apply r_or | with_reducible apply r_not | with_reducible apply (r_mop rfl) | with_reducible apply r_mopB | with_reducible apply r_lst | with_reducible apply r_mv | with_reducible apply r_sh | with_reducible apply r_glob | with_reducible apply r_cmp2 | with_reducible apply r_ite | with_reducible apply r_bw | with_reducible apply r_meth | with_reducible apply r_new | with_reducible apply r_pop | with_reducible apply r_popAt | with_reducible exact r_dct | with_reducible exact r_dctT | with_reducible apply r_dctOf) | (focus (with_reducible show ev _ _ _ _ true _ = _); first | with_reducible apply t_op | with_reducible apply t_call | with_reducible apply r_and | with_reducible apply r_or | with_reducible apply r_not | with_reducible apply t_var | with_reducible apply t_bw | with_reducible apply r_cmp2 | with_reducible apply t_mop | with_reducible apply t_meth | with_reducible apply t_lit) | (focus (with_reducible show evO _ _ _ _ _ = _); first | with_reducible apply (o_cons rfl) | with_reducible exact o_nil | with_reducible apply o_bw | rfl) | (focus (with_reducible show prim _ _ = _); first | (focus (with_reducible show prim .mod _ = _); exact p_mod (by omega)) | (focus (with_reducible show prim .fdiv _ = _); exact p_fdiv ⟨by omega, by omega⟩) | (focus (with_reducible show prim .mul _ = _); first | exact p_mul2 ⟨by omega, by omega⟩ | exact p_mul1 ⟨by omega, by omega⟩) | (focus (with_reducible show prim (.isi _) _ = _); exact hp) | rfl) | (focus (with_reducible show O.frz _ = _); rfl) | (focus (with_reducible show truth _ = _); rfl) | (focus (with_reducible show evV _ _ _ _ _ = _); first | with_reducible apply v_cons | with_reducible exact v_nil | rfl) | (focus (with_reducible show evS _ _ _ _ _ _ = _); first | with_reducible apply s_asg | with_reducible apply s_ite | with_reducible apply s_ret | with_reducible apply s_for | with_reducible apply s_app | with_reducible apply s_setI | with_reducible apply s_expr | with_reducible apply s_unp | with_reducible apply s_aug | with_reducible apply s_while | with_reducible apply s_ext | with_reducible apply s_rev | with_reducible exact s_retN | with_reducible exact s_pass | with_reducible exact s_brk | with_reducible exact s_cont) | (focus (with_reducible show evSs _ _ _ _ _ _ = _); first | with_reducible apply ss_cons | with_reducible exact ss_nil | rfl) | (focus (with_reducible show flK _ _ _ = _); first | with_reducible apply fl_nx | with_reducible exact fl_rt | with_reducible exact fl_bk | with_reducible exact fl_ct | exact fl_rt) | (focus (with_reducible show evA _ _ _ _ _ = _); first | with_reducible apply (a_cons rfl) | with_reducible apply a_rf | with_reducible exact a_nil | with_reducible apply a_fr | rfl) | (focus (with_reducible show takeA _ _ _ = _); rfl) | (focus (with_reducible show giveA _ _ _ = _); rfl) | ((with_reducible apply cond_t); focus (first | rfl | assumption | (simp [*]; done))) | ((with_reducible apply cond_f); focus (first | rfl | assumption | (simp [*]; done))) | (focus (with_reducible show rcv _ _ = _); rfl) | (focus (with_reducible show iterD _ _ = _); rfl) | (focus (with_reducible show plainS _ _ = _); rfl) | (focus (with_reducible show bindT _ _ _ = _); rfl) | (focus (with_reducible show setO _ _ _ _ = _); rfl) | (focus (with_reducible show getElem? _ _ = _); rfl) | (focus (with_reducible show some _ = some _); rfl) | (focus (with_reducible show fgK _ _ _ = _); first | with_reducible apply fg_nx | with_reducible apply fg_ct | with_reducible exact fg_bk | with_reducible exact fg_rt | exact fg_rt) | (focus (with_reducible show forGo _ _ _ _ = _); first | with_reducible exact f_nil | with_reducible apply f_cons) | (focus (with_reducible show _ ≤ sizeLine); first | exact sz_le rfl | exact sz_leO (by first | omega | (simp; done) | (simp; omega))) | (focus (with_reducible show _ < sizeLine); first | exact sz_lt rfl | exact sz_ltO (by first | omega | (simp; done) | (simp; omega))) | (focus (with_reducible show ixN _ _ = _); first | exact ix0 | rfl) | (focus (with_reducible show -(2 ^ 63) ≤ _ ∧ _ < 2 ^ 63); exact ⟨by omega, by omega⟩) | with_reducible apply r_cmp2z | (focus (with_reducible show List.length _ = _); rfl) | (focus (with_reducible show List.getLast? _ = _); rfl))
    · rfl
  · apply r_fn (F := ⟨1, 1, none, b13⟩) rfl rfl
    · unfold b13
      dsimp only
      repeat (first | (focus (with_reducible show getS _ _ = _); rfl) | (focus (with_reducible show ev _ _ _ _ false _ = _); first | with_reducible apply r_var | with_reducible exact r_lit | with_reducible apply r_op | with_reducible apply r_callE | with_reducible apply r_tup | with_reducible apply r_frz | with_reducible apply r_and | with_reducible apply r_or | with_reducible apply r_not | with_reducible apply (r_mop rfl) | with_reducible apply r_mopB | with_reducible apply r_lst | with_reducible apply r_mv | with_reducible apply r_sh | with_reducible apply r_glob | with_reducible apply r_cmp2 | with_reducible apply r_ite | with_reducible apply r_bw | with_reducible apply r_meth | with_reducible apply r_new | with_reducible apply r_pop | with_reducible apply r_popAt | with_reducible exact r_dct | with_reducible exact r_dctT | with_reducible apply r_dctOf) | (focus (with_reducible show ev _ _ _ _ true _ = _); first | with_reducible apply t_op | with_reducible apply t_call | with_reducible apply r_and | with_reducible apply r_or | with_reducible apply r_not | with_reducible apply t_var | with_reducible apply t_bw | with_reducible apply r_cmp2 | with_reducible apply t_mop | with_reducible apply t_meth | with_reducible apply t_lit) | (focus (with_reducible show evO _ _ _ _ _ = _); first | with_reducible apply (o_cons rfl) | with_reducible exact o_nil | with_reducible apply o_bw | rfl) | (focus (with_reducible show prim _ _ = _); first | (focus (with_reducible show prim .mod _ = _); exact p_mod (by omega)) | (focus (with_reducible show prim .fdiv _ = _); exact p_fdiv ⟨by omega, by omega⟩) | (focus (with_reducible show prim .mul _ = _); first | exact p_mul2 ⟨by omega, by omega⟩ | exact p_mul1 ⟨by omega, by omega⟩) | (focus (with_reducible show prim (.isi _) _ = _); exact hp) | rfl) | (focus (with_reducible show O.frz _ = _); rfl) | (focus (with_reducible show truth _ = _); rfl) | (focus (with_reducible show evV _ _ _ _ _ = _); first | with_reducible apply v_cons | with_reducible exact v_nil | rfl) | (focus (with_reducible show evS _ _ _ _ _ _ = _); first | with_reducible apply s_asg | with_reducible apply s_ite | with_reducible apply s_ret | with_reducible apply s_for | with_reducible apply s_app | with_reducible apply s_setI | with_reducible apply s_expr | with_reducible apply s_unp | with_reducible apply s_aug | with_reducible apply s_while | with_reducible apply s_ext | with_reducible apply s_rev | with_reducible exact s_retN | with_reducible exact s_pass | with_reducible exact s_brk | with_reducible exact s_cont) | (focus (with_reducible show evSs _ _ _ _ _ _ = _); first | with_reducible apply ss_cons | with_reducible exact ss_nil | rfl) | (focus (with_reducible show flK _ _ _ = _); first | with_reducible apply fl_nx | with_reducible exact fl_rt | with_reducible exact fl_bk | with_reducible exact fl_ct | exact fl_rt) | (focus (with_reducible show evA _ _ _ _ _ = _); first | with_reducible apply (a_cons rfl) | with_reducible apply a_rf | with_reducible exact a_nil | with_reducible apply a_fr | rfl) | (focus (with_reducible show takeA _ _ _ = _); rfl) | (focus (with_reducible show giveA _ _ _ = _); rfl) | ((with_reducible apply cond_t); focus (first | rfl | assumption | (simp [*]; done))) | ((with_reducible apply cond_f); focus (first | rfl | assumption | (simp [*]; done))) | (focus (with_reducible show rcv _ _ = _); rfl) | (focus (with_reducible show iterD _ _ = _); rfl) | (focus (with_reducible show plainS _ _ = _); rfl) | (focus (with_reducible show bindT _ _ _ = _); rfl) | (focus (with_reducible show setO _ _ _ _ = _); rfl) | (focus (with_reducible show getElem? _ _ = _); rfl) | (focus (with_reducible show some _ = some _); rfl) | (focus (with_reducible show fgK _ _ _ = _); first | with_reducible apply fg_nx | with_reducible apply fg_ct | with_reducible exact fg_bk | with_reducible exact fg_rt | exact fg_rt) | (focus (with_reducible show forGo _ _ _ _ = _); first | with_reducible exact f_nil | with_reducible apply f_cons) | (focus (with_reducible show _ ≤ sizeLine); first | exact sz_le rfl | exact sz_leO (by first | omega | (simp; done) | (simp; omega))) | (focus (with_reducible show _ < sizeLine); first | exact sz_lt rfl | exact sz_ltO (by first | omega | (simp; done) | (simp; omega))) | (focus (with_reducible show ixN _ _ = _); first | exact ix0 | rfl) | (focus (with_reducible show -(2 ^ 63) ≤ _ ∧ _ < 2 ^ 63); exact ⟨by omega, by omega⟩) | with_reducible apply r_cmp2z | (focus (with_reducible show List.length _ = _); rfl) | (focus (with_reducible show List.getLast? _ = _); rfl))
    · rfl
  · apply r_fn (F := ⟨1, 1, none, b14⟩) rfl rfl
    · unfold b14
      dsimp only
      repeat (first | (focus (with_reducible show getS _ _ = _); rfl) | (focus (with_reducible show ev _ _ _ _ false _ = _); first | with_reducible apply r_var | with_reducible exact r_lit | with_reducible apply r_op | with_reducible apply r_callE | with_reducible apply r_tup | with_reducible apply r_frz | with_reducible apply r_and | with_reducible apply r_or | with_reducible apply r_not | with_reducible apply (r_mop rfl) | with_reducible apply r_mopB | with_reducible apply r_lst | with_reducible apply r_mv | with_reducible apply r_sh | with_reducible apply r_glob | with_reducible apply r_cmp2 | with_reducible apply r_ite | with_reducible apply r_bw | with_reducible apply r_meth | with_reducible apply r_new | with_reducible apply r_pop | with_reducible apply r_popAt | with_reducible exact r_dct | with_reducible exact r_dctT | with_reducible apply r_dctOf) | (focus (with_reducible show ev _ _ _ _ true _ = _); first | with_reducible apply t_op | with_reducible apply t_call | with_reducible apply r_and | with_reducible apply r_or | with_reducible apply r_not | with_reducible apply t_var | with_reducible apply t_bw | with_reducible apply r_cmp2 | with_reducible apply t_mop | with_reducible apply t_meth | with_reducible apply t_lit) | (focus (with_reducible show evO _ _ _ _ _ = _); first | with_reducible apply (o_cons rfl) | with_reducible exact o_nil | with_reducible apply o_bw | rfl) | (focus (with_reducible show prim _ _ = _); first | (focus (with_reducible show prim .mod _ = _); exact p_mod (by omega)) | (focus (with_reducible show prim .fdiv _ = _); exact p_fdiv ⟨by omega, by omega⟩) | (focus (with_reducible show prim .mul _ = _); first | exact p_mul2 ⟨by omega, by omega⟩ | exact p_mul1 ⟨by omega, by omega⟩) | (focus (with_reducible show prim (.isi _) _ = _); exact hp) | rfl) | (focus (with_reducible show O.frz _ = _); rfl) | (focus (with_reducible show truth _ = _); rfl) | (focus (with_reducible show evV _ _ _ _ _ = _); first | with_reducible apply v_cons | with_reducible exact v_nil | rfl) | (focus (with_reducible show evS _ _ _ _ _ _ = _); first | with_reducible apply s_asg | with_reducible apply s_ite | with_reducible apply s_ret | with_reducible apply s_for | with_reducible apply s_app | with_reducible apply s_setI | with_reducible apply s_expr | with_reducible apply s_unp | with_reducible apply s_aug | with_reducible apply s_while | with_reducible apply s_ext | with_reducible apply s_rev | with_reducible exact s_retN | with_reducible exact s_pass | with_reducible exact s_brk | with_reducible exact s_cont) | (focus (with_reducible show evSs _ _ _ _ _ _ = _); first | with_reducible apply ss_cons | with_reducible exact ss_nil | rfl) | (focus (with_reducible show flK _ _ _ = _); first | with_reducible apply fl_nx | with_reducible exact fl_rt | with_reducible exact fl_bk | with_reducible exact fl_ct | exact fl_rt) | (focus (with_reducible show evA _ _ _ _ _ = _); first | with_reducible apply (a_cons rfl) | with_reducible apply a_rf | with_reducible exact a_nil | with_reducible apply a_fr | rfl) | (focus (with_reducible show takeA _ _ _ = _); rfl) | (focus (with_reducible show giveA _ _ _ = _); rfl) | ((with_reducible apply cond_t); focus (first | rfl | assumption | (simp [*]; done))) | ((with_reducible apply cond_f); focus (first | rfl | assumption | (simp [*]; done))) | (focus (with_reducible show rcv _ _ = _); rfl) | (focus (with_reducible show iterD _ _ = _); rfl) | (focus (with_reducible show plainS _ _ = _); rfl) | (focus (with_reducible show bindT _ _ _ = _); rfl) | (focus (with_reducible show setO _ _ _ _ = _); rfl) | (focus (with_reducible show getElem? _ _ = _); rfl) | (focus (with_reducible show some _ = some _); rfl) | (focus (with_reducible show fgK _ _ _ = _); first | with_reducible apply fg_nx | with_reducible apply fg_ct | with_reducible exact fg_bk | with_reducible exact fg_rt | exact fg_rt) | (focus (with_reducible show forGo _ _ _ _ = _); first | with_reducible exact f_nil | with_reducible apply f_cons) | (focus (with_reducible show _ ≤ sizeLine); first | exact sz_le rfl | exact sz_leO (by first | omega | (simp; done) | (simp; omega))) | (focus (with_reducible show _ < sizeLine); first | exact sz_lt rfl | exact sz_ltO (by first | omega | (simp; done) | (simp; omega))) | (focus (with_reducible show ixN _ _ = _); first | exact ix0 | rfl) | (focus (with_reducible show -(2 ^ 63) ≤ _ ∧ _ < 2 ^ 63); exact ⟨by omega, by omega⟩) | with_reducible apply r_cmp2z | (focus (with_reducible show List.length _ = _); rfl) | (focus (with_reducible show List.getLast? _ = _); rfl))
    · rfl

theorem law (ns : List Int) (hl : ns.length ≤ 63) : ∃ ps, evF B 60 0 [.val (.lst (ns.map .int))] = some (.val (.bl true), ps) := by
  obtain ⟨c0, p0, hdeck, hc0⟩ := deck_ok 59 (by omega) ns hl
  obtain ⟨i1, c1, hn1, hc1⟩ := next_ok 59 (by omega) hc0
  -- the row
  obtain ⟨ρ', hrow, c2, ws, y3, hc2, hlen, hws, rfl⟩ := f_all (bd := bindT (.one 3)) (body := evSs B.G B.CL B.W (evF B 59) b0_0) (fun k ρ => ∃ (c : O) (ws : List (List Nat)) (y : Option O), Cl c ∧ ws.length = k ∧ (∀ w ∈ ws, Wd w) ∧ ρ = [some (.val (.lst (ns.map .int))), some c, some (.lst ((ws.map mkS).map .str)), y, none, none, none, none, none]) (rngL 0 (i1 % 41).toNat) 0 [some (.val (.lst (ns.map .int))), some c1, some (.lst []), none, none, none, none, none, none] ⟨c1, [], _, hc1, rfl, by simp, rfl⟩ (by
    rintro j x ρ hx ⟨c, ws, y, hc, h1, h2, rfl⟩
    obtain ⟨hj, rfl⟩ := rngL_get hx
    obtain ⟨i, c', hn, hc'⟩ := next_ok 59 (by omega) hc
    obtain ⟨l, hd, hwd⟩ := drawn_ok 59 (by omega) i
    have hsz : ((ws.map mkS).map EV.D.str).length ≤ 100 := by simp; omega
    apply stn_mk
    · rfl
    · unfold b0_0
      repeat (first | (focus (with_reducible show getS _ _ = _); rfl) | (focus (with_reducible show ev _ _ _ _ false _ = _); first | with_reducible apply r_var | with_reducible exact r_lit | with_reducible apply r_op | with_reducible apply r_callE | with_reducible apply r_tup | with_reducible apply r_frz | with_reducible apply r_and | with_reducible apply r_or | with_reducible apply r_not | with_reducible apply (r_mop rfl) | with_reducible apply r_mopB | with_reducible apply r_lst | with_reducible apply r_mv | with_reducible apply r_sh | with_reducible apply r_glob | with_reducible apply r_cmp2 | with_reducible apply r_ite | with_reducible apply r_bw | with_reducible apply r_meth | with_reducible apply r_new | with_reducible apply r_pop | with_reducible apply r_popAt | with_reducible exact r_dct | with_reducible exact r_dctT | with_reducible apply r_dctOf) | (focus (with_reducible show ev _ _ _ _ true _ = _); first | with_reducible apply t_op | with_reducible apply t_call | with_reducible apply r_and | with_reducible apply r_or | with_reducible apply r_not | with_reducible apply t_var | with_reducible apply t_bw | with_reducible apply r_cmp2 | with_reducible apply t_mop | with_reducible apply t_meth | with_reducible apply t_lit) | (focus (with_reducible show evO _ _ _ _ _ = _); first | with_reducible apply (o_cons rfl) | with_reducible exact o_nil | with_reducible apply o_bw | rfl) | (focus (with_reducible show prim _ _ = _); first | (focus (with_reducible show prim .mod _ = _); exact p_mod (by omega)) | (focus (with_reducible show prim .fdiv _ = _); exact p_fdiv ⟨by omega, by omega⟩) | (focus (with_reducible show prim .mul _ = _); first | exact p_mul2 ⟨by omega, by omega⟩ | exact p_mul1 ⟨by omega, by omega⟩) | rfl) | (focus (with_reducible show O.frz _ = _); rfl) | (focus (with_reducible show truth _ = _); rfl) | (focus (with_reducible show evV _ _ _ _ _ = _); first | with_reducible apply v_cons | with_reducible exact v_nil | rfl) | (focus (with_reducible show evS _ _ _ _ _ _ = _); first | with_reducible apply s_asg | with_reducible apply s_ite | with_reducible apply s_ret | with_reducible apply s_for | with_reducible apply s_app | with_reducible apply s_setI | with_reducible apply s_expr | with_reducible apply s_unp | with_reducible apply s_aug | with_reducible apply s_while | with_reducible apply s_ext | with_reducible apply s_rev | with_reducible exact s_retN | with_reducible exact s_pass | with_reducible exact s_brk | with_reducible exact s_cont) | (focus (with_reducible show evSs _ _ _ _ _ _ = _); first | with_reducible apply ss_cons | with_reducible exact ss_nil | rfl) | (focus (with_reducible show flK _ _ _ = _); first | with_reducible apply fl_nx | with_reducible exact fl_rt | with_reducible exact fl_bk | with_reducible exact fl_ct | exact fl_rt) | (focus (with_reducible show evA _ _ _ _ _ = _); first | with_reducible apply (a_cons rfl) | with_reducible apply a_rf | with_reducible exact a_nil | with_reducible apply a_fr | rfl) | (focus (with_reducible show evF _ _ _ _ = _); first | (focus (with_reducible show evF _ _ 2 _ = _);  exact hn) | (focus (with_reducible show evF _ _ 3 _ = _);  exact hd)) | (focus (with_reducible show takeA _ _ _ = _); rfl) | (focus (with_reducible show giveA _ _ _ = _); rfl) | ((with_reducible apply cond_t); focus (first | rfl | assumption | (simp [*]; done))) | ((with_reducible apply cond_f); focus (first | rfl | assumption | (simp [*]; done))) | (focus (with_reducible show _ < sizeLine); exact sz_ltO (by omega)) | (focus (with_reducible show rcv _ _ = _); rfl) | (focus (with_reducible show iterD _ _ = _); rfl) | (focus (with_reducible show plainS _ _ = _); rfl) | (focus (with_reducible show bindT _ _ _ = _); rfl) | (focus (with_reducible show setO _ _ _ _ = _); rfl) | (focus (with_reducible show getElem? _ _ = _); rfl) | (focus (with_reducible show some _ = some _); rfl) | (focus (with_reducible show fgK _ _ _ = _); first | with_reducible apply fg_nx | with_reducible apply fg_ct | with_reducible exact fg_bk | with_reducible exact fg_rt | exact fg_rt) | (focus (with_reducible show forGo _ _ _ _ = _); first | with_reducible exact f_nil | with_reducible apply f_cons) | (focus (with_reducible show _ ≤ sizeLine); first | exact sz_le rfl | exact sz_leO (by first | omega | (simp; done) | (simp; omega))) | (focus (with_reducible show _ < sizeLine); first | exact sz_lt rfl | exact sz_ltO (by first | omega | (simp; done) | (simp; omega))) | (focus (with_reducible show ixN _ _ = _); first | exact ix0 | rfl) | (focus (with_reducible show -(2 ^ 63) ≤ _ ∧ _ < 2 ^ 63); exact ⟨by omega, by omega⟩) | with_reducible apply r_cmp2z | (focus (with_reducible show List.length _ = _); rfl) | (focus (with_reducible show List.getLast? _ = _); rfl))
    · exact ⟨c', ws ++ [l], _, hc', by simp [h1], fun w hw => (List.mem_append.mp hw).elim (h2 w) fun hw => by simp at hw; subst hw; exact hwd, by rw [List.map_append, List.map_append]; rfl⟩)
  rw [rngL_len, Nat.zero_add] at hlen
  have h40 : ws.length ≤ 40 := by omega
  obtain ⟨i2, c3, hn2, hc3⟩ := next_ok 59 (by omega) hc2
  obtain ⟨t, hsp, htk, ht⟩ := spaced_ok 58 ws h40 hws i2
  have hwf := words_f 58 t ht
  rw [htk] at hwf
  have ok : ∀ s ∈ ws.map mkS, PyData.strOk s = true := fun s hs => by
    obtain ⟨w, hw, rfl⟩ := List.mem_map.mp hs
    exact asc_ok (hws w hw).2.2.2
  have hne : prim .ne [.lst ((ws.map mkS).map .str), .lst ((ws.map mkS).map .str)] = some (.val (.bl false)) := by
    have := p_neStrs ok ok
    simpa using this
  have hsz : ((ws.map mkS).map EV.D.str).length ≤ 100 := by simp; omega
  -- asked twice
  obtain ⟨ρ', htwo, y5, y8, rfl⟩ := f_st (bd := bindT (.one 5)) (body := evSs B.G B.CL B.W (evF B 59) b0_1) (fun ρ => ∃ y5 y8, ρ = [some (.val (.lst (ns.map .int))), some c3, some (.val (.lst ((ws.map mkS).map .str))), y3, some (.val (.str (mkS t))), y5, none, none, y8]) (rngL 0 2) [some (.val (.lst (ns.map .int))), some c3, some (.val (.lst ((ws.map mkS).map .str))), y3, some (.val (.str (mkS t))), none, none, none, none] ⟨_, _, rfl⟩ (by
    rintro x hx ρ ⟨y5, y8, rfl⟩
    apply st_mk
    · rfl
    · unfold b0_1
      repeat (first | (focus (with_reducible show getS _ _ = _); rfl) | (focus (with_reducible show ev _ _ _ _ false _ = _); first | with_reducible apply r_var | with_reducible exact r_lit | with_reducible apply r_op | with_reducible apply r_callE | with_reducible apply r_tup | with_reducible apply r_frz | with_reducible apply r_and | with_reducible apply r_or | with_reducible apply r_not | with_reducible apply (r_mop rfl) | with_reducible apply r_mopB | with_reducible apply r_lst | with_reducible apply r_mv | with_reducible apply r_sh | with_reducible apply r_glob | with_reducible apply r_cmp2 | with_reducible apply r_ite | with_reducible apply r_bw | with_reducible apply r_meth | with_reducible apply r_new | with_reducible apply r_pop | with_reducible apply r_popAt | with_reducible exact r_dct | with_reducible exact r_dctT | with_reducible apply r_dctOf) | (focus (with_reducible show ev _ _ _ _ true _ = _); first | with_reducible apply t_op | with_reducible apply t_call | with_reducible apply r_and | with_reducible apply r_or | with_reducible apply r_not | with_reducible apply t_var | with_reducible apply t_bw | with_reducible apply r_cmp2 | with_reducible apply t_mop | with_reducible apply t_meth | with_reducible apply t_lit) | (focus (with_reducible show evO _ _ _ _ _ = _); first | with_reducible apply (o_cons rfl) | with_reducible exact o_nil | with_reducible apply o_bw | rfl) | (focus (with_reducible show prim _ _ = _); first | (focus (with_reducible show prim .mod _ = _); exact p_mod (by omega)) | (focus (with_reducible show prim .fdiv _ = _); exact p_fdiv ⟨by omega, by omega⟩) | (focus (with_reducible show prim .mul _ = _); first | exact p_mul2 ⟨by omega, by omega⟩ | exact p_mul1 ⟨by omega, by omega⟩) | (focus (with_reducible show prim .ne _ = _); exact hne) | rfl) | (focus (with_reducible show O.frz _ = _); rfl) | (focus (with_reducible show truth _ = _); rfl) | (focus (with_reducible show evV _ _ _ _ _ = _); first | with_reducible apply v_cons | with_reducible exact v_nil | rfl) | (focus (with_reducible show evS _ _ _ _ _ _ = _); first | with_reducible apply s_asg | with_reducible apply s_ite | with_reducible apply s_ret | with_reducible apply s_for | with_reducible apply s_app | with_reducible apply s_setI | with_reducible apply s_expr | with_reducible apply s_unp | with_reducible apply s_aug | with_reducible apply s_while | with_reducible apply s_ext | with_reducible apply s_rev | with_reducible exact s_retN | with_reducible exact s_pass | with_reducible exact s_brk | with_reducible exact s_cont) | (focus (with_reducible show evSs _ _ _ _ _ _ = _); first | with_reducible apply ss_cons | with_reducible exact ss_nil | rfl) | (focus (with_reducible show flK _ _ _ = _); first | with_reducible apply fl_nx | with_reducible exact fl_rt | with_reducible exact fl_bk | with_reducible exact fl_ct | exact fl_rt) | (focus (with_reducible show evA _ _ _ _ _ = _); first | with_reducible apply (a_cons rfl) | with_reducible apply a_rf | with_reducible exact a_nil | with_reducible apply a_fr | rfl) | (focus (with_reducible show evF _ _ _ _ = _); first | (focus (with_reducible show evF _ _ 5 _ = _);  exact hwf)) | (focus (with_reducible show takeA _ _ _ = _); rfl) | (focus (with_reducible show giveA _ _ _ = _); rfl) | ((with_reducible apply cond_t); focus (first | rfl | assumption | (simp [*]; done))) | ((with_reducible apply cond_f); focus (first | rfl | assumption | (simp [*]; done))) | (focus (with_reducible show _ < sizeLine); exact sz_ltO (by omega)) | (focus (with_reducible show rcv _ _ = _); rfl) | (focus (with_reducible show iterD _ _ = _); rfl) | (focus (with_reducible show plainS _ _ = _); rfl) | (focus (with_reducible show bindT _ _ _ = _); rfl) | (focus (with_reducible show setO _ _ _ _ = _); rfl) | (focus (with_reducible show getElem? _ _ = _); rfl) | (focus (with_reducible show some _ = some _); rfl) | (focus (with_reducible show fgK _ _ _ = _); first | with_reducible apply fg_nx | with_reducible apply fg_ct | with_reducible exact fg_bk | with_reducible exact fg_rt | exact fg_rt) | (focus (with_reducible show forGo _ _ _ _ = _); first | with_reducible exact f_nil | with_reducible apply f_cons) | (focus (with_reducible show _ ≤ sizeLine); first | exact sz_le rfl | exact sz_leO (by first | omega | (simp; done) | (simp; omega))) | (focus (with_reducible show _ < sizeLine); first | exact sz_lt rfl | exact sz_ltO (by first | omega | (simp; done) | (simp; omega))) | (focus (with_reducible show ixN _ _ = _); first | exact ix0 | rfl) | (focus (with_reducible show -(2 ^ 63) ≤ _ ∧ _ < 2 ^ 63); exact ⟨by omega, by omega⟩) | with_reducible apply r_cmp2z | (focus (with_reducible show List.length _ = _); rfl) | (focus (with_reducible show List.getLast? _ = _); rfl))
    · exact ⟨_, _, rfl⟩)
  -- each word
  obtain ⟨ρ', hword, y6, rfl⟩ := f_st (bd := bindT (.one 6)) (body := evSs B.G B.CL B.W (evF B 59) b0_2) (fun ρ => ∃ y6, ρ = [some (.val (.lst (ns.map .int))), some c3, some (.val (.lst ((ws.map mkS).map .str))), y3, some (.val (.str (mkS t))), y5, y6, none, y8]) ((ws.map mkS).map .str ++ [.str ""]) [some (.val (.lst (ns.map .int))), some c3, some (.val (.lst ((ws.map mkS).map .str))), y3, some (.val (.str (mkS t))), y5, none, none, y8] ⟨_, rfl⟩ (by
    rintro x hx ρ ⟨y6, rfl⟩
    have hx : ∃ l, x = .str (mkS l) ∧ l.length ≤ 1000 ∧ Asc l := by
      rcases List.mem_append.mp hx with hx | hx
      · rw [List.map_map] at hx
        obtain ⟨w, hw, rfl⟩ := List.mem_map.mp hx
        have := hws w hw
        exact ⟨w, rfl, by have := this.2.1; omega, this.2.2.2⟩
      · simp at hx
        subst hx
        exact ⟨[], rfl, by simp, fun c hc => by cases hc⟩
    obtain ⟨l, rfl, hl1, ha⟩ := hx
    obtain ⟨o1, o2, t1, t2, t3⟩ := same_word 59 (by omega) l hl1 ha
    apply st_mk
    · rfl
    · unfold b0_2
      repeat (first | (focus (with_reducible show getS _ _ = _); rfl) | (focus (with_reducible show ev _ _ _ _ false _ = _); first | with_reducible apply r_var | with_reducible exact r_lit | with_reducible apply r_op | with_reducible apply r_callE | with_reducible apply r_tup | with_reducible apply r_frz | with_reducible apply r_and | with_reducible apply r_or | with_reducible apply r_not | with_reducible apply (r_mop rfl) | with_reducible apply r_mopB | with_reducible apply r_lst | with_reducible apply r_mv | with_reducible apply r_sh | with_reducible apply r_glob | with_reducible apply r_cmp2 | with_reducible apply r_ite | with_reducible apply r_bw | with_reducible apply r_meth | with_reducible apply r_new | with_reducible apply r_pop | with_reducible apply r_popAt | with_reducible exact r_dct | with_reducible exact r_dctT | with_reducible apply r_dctOf) | (focus (with_reducible show ev _ _ _ _ true _ = _); first | with_reducible apply t_op | with_reducible apply t_call | with_reducible apply r_and | with_reducible apply r_or | with_reducible apply r_not | with_reducible apply t_var | with_reducible apply t_bw | with_reducible apply r_cmp2 | with_reducible apply t_mop | with_reducible apply t_meth | with_reducible apply t_lit) | (focus (with_reducible show evO _ _ _ _ _ = _); first | with_reducible apply (o_cons rfl) | with_reducible exact o_nil | with_reducible apply o_bw | rfl) | (focus (with_reducible show prim _ _ = _); first | (focus (with_reducible show prim .mod _ = _); exact p_mod (by omega)) | (focus (with_reducible show prim .fdiv _ = _); exact p_fdiv ⟨by omega, by omega⟩) | (focus (with_reducible show prim .mul _ = _); first | exact p_mul2 ⟨by omega, by omega⟩ | exact p_mul1 ⟨by omega, by omega⟩) | (focus (with_reducible show prim .ne _ = _); exact t3) | rfl) | (focus (with_reducible show O.frz _ = _); rfl) | (focus (with_reducible show truth _ = _); rfl) | (focus (with_reducible show evV _ _ _ _ _ = _); first | with_reducible apply v_cons | with_reducible exact v_nil | rfl) | (focus (with_reducible show evS _ _ _ _ _ _ = _); first | with_reducible apply s_asg | with_reducible apply s_ite | with_reducible apply s_ret | with_reducible apply s_for | with_reducible apply s_app | with_reducible apply s_setI | with_reducible apply s_expr | with_reducible apply s_unp | with_reducible apply s_aug | with_reducible apply s_while | with_reducible apply s_ext | with_reducible apply s_rev | with_reducible exact s_retN | with_reducible exact s_pass | with_reducible exact s_brk | with_reducible exact s_cont) | (focus (with_reducible show evSs _ _ _ _ _ _ = _); first | with_reducible apply ss_cons | with_reducible exact ss_nil | rfl) | (focus (with_reducible show flK _ _ _ = _); first | with_reducible apply fl_nx | with_reducible exact fl_rt | with_reducible exact fl_bk | with_reducible exact fl_ct | exact fl_rt) | (focus (with_reducible show evA _ _ _ _ _ = _); first | with_reducible apply (a_cons rfl) | with_reducible apply a_rf | with_reducible exact a_nil | with_reducible apply a_fr | rfl) | (focus (with_reducible show evF _ _ _ _ = _); first | (focus (with_reducible show evF _ _ 6 _ = _);  exact t1) | (focus (with_reducible show evF _ _ 7 _ = _);  exact t2)) | (focus (with_reducible show takeA _ _ _ = _); rfl) | (focus (with_reducible show giveA _ _ _ = _); rfl) | ((with_reducible apply cond_t); focus (first | rfl | assumption | (simp [*]; done))) | ((with_reducible apply cond_f); focus (first | rfl | assumption | (simp [*]; done))) | (focus (with_reducible show rcv _ _ = _); rfl) | (focus (with_reducible show iterD _ _ = _); rfl) | (focus (with_reducible show plainS _ _ = _); rfl) | (focus (with_reducible show bindT _ _ _ = _); rfl) | (focus (with_reducible show setO _ _ _ _ = _); rfl) | (focus (with_reducible show getElem? _ _ = _); rfl) | (focus (with_reducible show some _ = some _); rfl) | (focus (with_reducible show fgK _ _ _ = _); first | with_reducible apply fg_nx | with_reducible apply fg_ct | with_reducible exact fg_bk | with_reducible exact fg_rt | exact fg_rt) | (focus (with_reducible show forGo _ _ _ _ = _); first | with_reducible exact f_nil | with_reducible apply f_cons) | (focus (with_reducible show _ ≤ sizeLine); first | exact sz_le rfl | exact sz_leO (by first | omega | (simp; done) | (simp; omega))) | (focus (with_reducible show _ < sizeLine); first | exact sz_lt rfl | exact sz_ltO (by first | omega | (simp; done) | (simp; omega))) | (focus (with_reducible show ixN _ _ = _); first | exact ix0 | rfl) | (focus (with_reducible show -(2 ^ 63) ≤ _ ∧ _ < 2 ^ 63); exact ⟨by omega, by omega⟩) | with_reducible apply r_cmp2z | (focus (with_reducible show List.length _ = _); rfl) | (focus (with_reducible show List.getLast? _ = _); rfl))
    · exact ⟨_, rfl⟩)
  -- other things
  obtain ⟨ρ', hthing, y7, rfl⟩ := f_st (bd := bindT (.one 7)) (body := evSs B.G B.CL B.W (evF B 59) b0_3) (fun ρ => ∃ y7, ρ = [some (.val (.lst (ns.map .int))), some c3, some (.val (.lst ((ws.map mkS).map .str))), y3, some (.val (.str (mkS t))), y5, y6, y7, y8]) [.non, .int 0, .bl true, .tup [.str "a"], .lst [.str "a"], .int 7, .str "a b", .str " a", .str "a\n"] [some (.val (.lst (ns.map .int))), some c3, some (.val (.lst ((ws.map mkS).map .str))), y3, some (.val (.str (mkS t))), y5, y6, none, y8] ⟨_, rfl⟩ (by
    rintro x hx ρ ⟨y7, rfl⟩
    have tx : ∀ l : List Nat, l.length ≤ 1000 → nameB l = false → markB l = false → openB l = false → evF B 59 6 [.val (.str (mkS l))] = some (.val (tri false false false), [some (.val (.str (mkS l)))]) := fun l h0 h1 h2 h3 => by
      have := told_ok 59 (by omega) l h0
      rw [h1, h2, h3] at this
      exact this
    have ht : evF B 59 6 [.val x] = some (.val (tri false false false), [some (.val x)]) := by
      simp only [List.mem_cons, List.not_mem_nil, or_false] at hx
      rcases hx with rfl | rfl | rfl | rfl | rfl | rfl | rfl | rfl | rfl
      · exact no_text 59 (by omega) rfl
      · exact no_text 59 (by omega) rfl
      · exact no_text 59 (by omega) rfl
      · exact no_text 59 (by omega) rfl
      · exact no_text 59 (by omega) rfl
      · exact no_text 59 (by omega) rfl
      · exact tx [97, 32, 98] (by simp) (by decide +kernel) (by decide +kernel) (by decide +kernel)
      · exact tx [32, 97] (by simp) (by decide +kernel) (by decide +kernel) (by decide +kernel)
      · exact tx [97, 10] (by simp) (by decide +kernel) (by decide +kernel) (by decide +kernel)
    apply st_mk
    · rfl
    · unfold b0_3
      repeat (first | (focus (with_reducible show getS _ _ = _); rfl) | (focus (with_reducible show ev _ _ _ _ false _ = _); first | with_reducible apply r_var | with_reducible exact r_lit | with_reducible apply r_op | with_reducible apply r_callE | with_reducible apply r_tup | with_reducible apply r_frz | with_reducible apply r_and | with_reducible apply r_or | with_reducible apply r_not | with_reducible apply (r_mop rfl) | with_reducible apply r_mopB | with_reducible apply r_lst | with_reducible apply r_mv | with_reducible apply r_sh | with_reducible apply r_glob | with_reducible apply r_cmp2 | with_reducible apply r_ite | with_reducible apply r_bw | with_reducible apply r_meth | with_reducible apply r_new | with_reducible apply r_pop | with_reducible apply r_popAt | with_reducible exact r_dct | with_reducible exact r_dctT | with_reducible apply r_dctOf) | (focus (with_reducible show ev _ _ _ _ true _ = _); first | with_reducible apply t_op | with_reducible apply t_call | with_reducible apply r_and | with_reducible apply r_or | with_reducible apply r_not | with_reducible apply t_var | with_reducible apply t_bw | with_reducible apply r_cmp2 | with_reducible apply t_mop | with_reducible apply t_meth | with_reducible apply t_lit) | (focus (with_reducible show evO _ _ _ _ _ = _); first | with_reducible apply (o_cons rfl) | with_reducible exact o_nil | with_reducible apply o_bw | rfl) | (focus (with_reducible show prim _ _ = _); first | (focus (with_reducible show prim .mod _ = _); exact p_mod (by omega)) | (focus (with_reducible show prim .fdiv _ = _); exact p_fdiv ⟨by omega, by omega⟩) | (focus (with_reducible show prim .mul _ = _); first | exact p_mul2 ⟨by omega, by omega⟩ | exact p_mul1 ⟨by omega, by omega⟩) | (focus (with_reducible show prim .ne _ = _); exact p_tri false false false) | rfl) | (focus (with_reducible show O.frz _ = _); rfl) | (focus (with_reducible show truth _ = _); rfl) | (focus (with_reducible show evV _ _ _ _ _ = _); first | with_reducible apply v_cons | with_reducible exact v_nil | rfl) | (focus (with_reducible show evS _ _ _ _ _ _ = _); first | with_reducible apply s_asg | with_reducible apply s_ite | with_reducible apply s_ret | with_reducible apply s_for | with_reducible apply s_app | with_reducible apply s_setI | with_reducible apply s_expr | with_reducible apply s_unp | with_reducible apply s_aug | with_reducible apply s_while | with_reducible apply s_ext | with_reducible apply s_rev | with_reducible exact s_retN | with_reducible exact s_pass | with_reducible exact s_brk | with_reducible exact s_cont) | (focus (with_reducible show evSs _ _ _ _ _ _ = _); first | with_reducible apply ss_cons | with_reducible exact ss_nil | rfl) | (focus (with_reducible show flK _ _ _ = _); first | with_reducible apply fl_nx | with_reducible exact fl_rt | with_reducible exact fl_bk | with_reducible exact fl_ct | exact fl_rt) | (focus (with_reducible show evA _ _ _ _ _ = _); first | with_reducible apply (a_cons rfl) | with_reducible apply a_rf | with_reducible exact a_nil | with_reducible apply a_fr | rfl) | (focus (with_reducible show evF _ _ _ _ = _); first | (focus (with_reducible show evF _ _ 6 _ = _);  exact ht)) | (focus (with_reducible show takeA _ _ _ = _); rfl) | (focus (with_reducible show giveA _ _ _ = _); rfl) | ((with_reducible apply cond_t); focus (first | rfl | assumption | (simp [*]; done))) | ((with_reducible apply cond_f); focus (first | rfl | assumption | (simp [*]; done))) | (focus (with_reducible show rcv _ _ = _); rfl) | (focus (with_reducible show iterD _ _ = _); rfl) | (focus (with_reducible show plainS _ _ = _); rfl) | (focus (with_reducible show bindT _ _ _ = _); rfl) | (focus (with_reducible show setO _ _ _ _ = _); rfl) | (focus (with_reducible show getElem? _ _ = _); rfl) | (focus (with_reducible show some _ = some _); rfl) | (focus (with_reducible show fgK _ _ _ = _); first | with_reducible apply fg_nx | with_reducible apply fg_ct | with_reducible exact fg_bk | with_reducible exact fg_rt | exact fg_rt) | (focus (with_reducible show forGo _ _ _ _ = _); first | with_reducible exact f_nil | with_reducible apply f_cons) | (focus (with_reducible show _ ≤ sizeLine); first | exact sz_le rfl | exact sz_leO (by first | omega | (simp; done) | (simp; omega))) | (focus (with_reducible show _ < sizeLine); first | exact sz_lt rfl | exact sz_ltO (by first | omega | (simp; done) | (simp; omega))) | (focus (with_reducible show ixN _ _ = _); first | exact ix0 | rfl) | (focus (with_reducible show -(2 ^ 63) ≤ _ ∧ _ < 2 ^ 63); exact ⟨by omega, by omega⟩) | with_reducible apply r_cmp2z | (focus (with_reducible show List.length _ = _); rfl) | (focus (with_reducible show List.getLast? _ = _); rfl))
    · exact ⟨_, rfl⟩)
  obtain ⟨ps, hright⟩ := signs_right 58 (by omega)
  refine ⟨[some (.val (.lst (ns.map .int)))], ?_⟩
  apply r_fn (F := ⟨1, 9, none, b0⟩) rfl rfl
  · unfold b0
    dsimp only
    repeat (first | (focus (with_reducible show getS _ _ = _); rfl) | (focus (with_reducible show ev _ _ _ _ false _ = _); first | with_reducible apply r_var | with_reducible exact r_lit | with_reducible apply r_op | with_reducible apply r_callE | with_reducible apply r_tup | with_reducible apply r_frz | with_reducible apply r_and | with_reducible apply r_or | with_reducible apply r_not | with_reducible apply (r_mop rfl) | with_reducible apply r_mopB | with_reducible apply r_lst | with_reducible apply r_mv | with_reducible apply r_sh | with_reducible apply r_glob | with_reducible apply r_cmp2 | with_reducible apply r_ite | with_reducible apply r_bw | with_reducible apply r_meth | with_reducible apply r_new | with_reducible apply r_pop | with_reducible apply r_popAt | with_reducible exact r_dct | with_reducible exact r_dctT | with_reducible apply r_dctOf) | (focus (with_reducible show ev _ _ _ _ true _ = _); first | with_reducible apply t_op | with_reducible apply t_call | with_reducible apply r_and | with_reducible apply r_or | with_reducible apply r_not | with_reducible apply t_var | with_reducible apply t_bw | with_reducible apply r_cmp2 | with_reducible apply t_mop | with_reducible apply t_meth | with_reducible apply t_lit) | (focus (with_reducible show evO _ _ _ _ _ = _); first | with_reducible apply (o_cons rfl) | with_reducible exact o_nil | with_reducible apply o_bw | rfl) | (focus (with_reducible show prim _ _ = _); first | (focus (with_reducible show prim .mod _ = _); exact p_mod (by omega)) | (focus (with_reducible show prim .fdiv _ = _); exact p_fdiv ⟨by omega, by omega⟩) | (focus (with_reducible show prim .mul _ = _); first | exact p_mul2 ⟨by omega, by omega⟩ | exact p_mul1 ⟨by omega, by omega⟩) | (focus (with_reducible show prim .add _ = _); exact p_catL (by simp; exact sz_leO (by omega))) | rfl) | (focus (with_reducible show O.frz _ = _); rfl) | (focus (with_reducible show truth _ = _); rfl) | (focus (with_reducible show evV _ _ _ _ _ = _); first | with_reducible apply v_cons | with_reducible exact v_nil | rfl) | (focus (with_reducible show evS _ _ _ _ _ _ = _); first | with_reducible apply s_asg | with_reducible apply s_ite | with_reducible apply s_ret | with_reducible apply s_for | with_reducible apply s_app | with_reducible apply s_setI | with_reducible apply s_expr | with_reducible apply s_unp | with_reducible apply s_aug | with_reducible apply s_while | with_reducible apply s_ext | with_reducible apply s_rev | with_reducible exact s_retN | with_reducible exact s_pass | with_reducible exact s_brk | with_reducible exact s_cont) | (focus (with_reducible show evSs _ _ _ _ _ _ = _); first | with_reducible apply ss_cons | with_reducible exact ss_nil | rfl) | (focus (with_reducible show flK _ _ _ = _); first | with_reducible apply fl_nx | with_reducible exact fl_rt | with_reducible exact fl_bk | with_reducible exact fl_ct | exact fl_rt) | (focus (with_reducible show evA _ _ _ _ _ = _); first | with_reducible apply (a_cons rfl) | with_reducible apply a_rf | with_reducible exact a_nil | with_reducible apply a_fr | rfl) | (focus (with_reducible show evF _ _ _ _ = _); first | (focus (with_reducible show evF _ _ 1 _ = _);  exact hdeck) | (focus (with_reducible show evF _ _ 2 _ = _);  first | exact hn1 | exact hn2) | (focus (with_reducible show evF _ _ 4 _ = _);  exact hsp) | (focus (with_reducible show evF _ _ 8 _ = _);  exact hright)) | (focus (with_reducible show takeA _ _ _ = _); rfl) | (focus (with_reducible show giveA _ _ _ = _); rfl) | ((with_reducible apply cond_t); focus (first | rfl | assumption | (simp [*]; done))) | ((with_reducible apply cond_f); focus (first | rfl | assumption | (simp [*]; done))) | (focus (with_reducible show forGo _ _ _ _ = _); first | exact hrow | exact htwo | exact hword | exact hthing) | (focus (with_reducible show iterD .rng1 _ = _); first | exact it1 (by omega)) | (focus (with_reducible show rcv _ _ = _); rfl) | (focus (with_reducible show iterD _ _ = _); rfl) | (focus (with_reducible show plainS _ _ = _); rfl) | (focus (with_reducible show bindT _ _ _ = _); rfl) | (focus (with_reducible show setO _ _ _ _ = _); rfl) | (focus (with_reducible show getElem? _ _ = _); rfl) | (focus (with_reducible show some _ = some _); rfl) | (focus (with_reducible show fgK _ _ _ = _); first | with_reducible apply fg_nx | with_reducible apply fg_ct | with_reducible exact fg_bk | with_reducible exact fg_rt | exact fg_rt) | (focus (with_reducible show forGo _ _ _ _ = _); first | with_reducible exact f_nil | with_reducible apply f_cons) | (focus (with_reducible show _ ≤ sizeLine); first | exact sz_le rfl | exact sz_leO (by first | omega | (simp; done) | (simp; omega))) | (focus (with_reducible show _ < sizeLine); first | exact sz_lt rfl | exact sz_ltO (by first | omega | (simp; done) | (simp; omega))) | (focus (with_reducible show ixN _ _ = _); first | exact ix0 | rfl) | (focus (with_reducible show -(2 ^ 63) ≤ _ ∧ _ < 2 ^ 63); exact ⟨by omega, by omega⟩) | with_reducible apply r_cmp2z | (focus (with_reducible show List.length _ = _); rfl) | (focus (with_reducible show List.getLast? _ = _); rfl))
  · rfl


def md (K : PySem.W.Frag) (cs : List Addr) : Mt := ⟨K, fun c => cs.getD c 0, fun k => T.fnm.getD k Str.empty, T.cnm.length, gkA B.G⟩
theorem all_mk {l : PySem.W.OpenLaw} {w : World} {K : PySem.W.Frag} {h : Heap} {mg : Str → Option Value} {fa a0 a1 a2 a3 a4 a5 a6 a7 a8 a9 a10 a11 a12 a13 a14 a15 a16 a17 t1 t14 : Addr} (X : K.In h) (G : h.Ns mainGlobals mg) (hfa : mg "law" = some (.ref fa))
    {od0 an0 : Option Addr} {sl0 : Array (Option Value)} {oc0 kV0 dc0 pm0 cd0 ct0 : Value} {od1 an1 : Option Addr} {sl1 : Array (Option Value)} {oc1 kV1 dc1 pm1 cd1 ct1 : Value} {od2 an2 : Option Addr} {sl2 : Array (Option Value)} {oc2 kV2 dc2 pm2 cd2 ct2 : Value} {od3 an3 : Option Addr} {sl3 : Array (Option Value)} {oc3 kV3 dc3 pm3 cd3 ct3 : Value} {od4 an4 : Option Addr} {sl4 : Array (Option Value)} {oc4 kV4 dc4 pm4 cd4 ct4 : Value} {od5 an5 : Option Addr} {sl5 : Array (Option Value)} {oc5 kV5 dc5 pm5 cd5 ct5 : Value} {od6 an6 : Option Addr} {sl6 : Array (Option Value)} {oc6 kV6 dc6 pm6 cd6 ct6 : Value} {od7 an7 : Option Addr} {sl7 : Array (Option Value)} {oc7 kV7 dc7 pm7 cd7 ct7 : Value} {od8 an8 : Option Addr} {sl8 : Array (Option Value)} {oc8 kV8 dc8 pm8 cd8 ct8 : Value} {od9 an9 : Option Addr} {sl9 : Array (Option Value)} {oc9 kV9 dc9 pm9 cd9 ct9 : Value} {od10 an10 : Option Addr} {sl10 : Array (Option Value)} {oc10 kV10 dc10 pm10 cd10 ct10 : Value} {od11 an11 : Option Addr} {sl11 : Array (Option Value)} {oc11 kV11 dc11 pm11 cd11 ct11 : Value} {od12 an12 : Option Addr} {sl12 : Array (Option Value)} {oc12 kV12 dc12 pm12 cd12 ct12 : Value} {od13 an13 : Option Addr} {sl13 : Array (Option Value)} {oc13 kV13 dc13 pm13 cd13 ct13 : Value} {od14 an14 : Option Addr} {sl14 : Array (Option Value)} {oc14 kV14 dc14 pm14 cd14 ct14 : Value} {od15 an15 : Option Addr} {sl15 : Array (Option Value)} {oc15 kV15 dc15 pm15 cd15 ct15 : Value} {od16 an16 : Option Addr} {sl16 : Array (Option Value)} {oc16 kV16 dc16 pm16 cd16 ct16 : Value} {od17 an17 : Option Addr} {sl17 : Array (Option Value)} {oc17 kV17 dc17 pm17 cd17 ct17 : Value} {tk0 : Nat} {to1 : Option Addr} {ts1 : Array (Option Value)} {tn1 : Nat} {tk2 : Nat} {tk3 : Nat} {tk4 : Nat} {tk5 : Nat} {tk6 : Nat} {tk7 : Nat} {tk8 : Nat} {tk9 : Nat} {tk10 : Nat} {tk11 : Nat} {tk12 : Nat} {tk13 : Nat} {to14 : Option Addr} {ts14 : Array (Option Value)} {tn14 : Nat} {tk15 : Nat} {tk16 : Nat} {tk17 : Nat} {tk18 : Nat} {tk19 : Nat} {tk20 : Nat} {tk21 : Nat} {tk22 : Nat} {tk23 : Nat} {tk24 : Nat} {tk25 : Nat} {tk26 : Nat} {tk27 : Nat} {tk28 : Nat} {tk29 : Nat} {tk30 : Nat} {tk31 : Nat} {tk32 : Nat}
    (g0 : PySem.W.nsIn K mainGlobals "law" = some (some (.ref a0)))
    (l0 : K.lookup a0 = some ⟨oc0, od0, .func (PySem.W.fnOf "law" "law" (defArgs (topS 26)) (defBody (topS 26)) (defScope (topS 26)) .none kV0 dc0 pm0 an0 cd0 ct0), sl0⟩)
    (c0 : PySem.W.codeIn K cd0 "law" = true)
    (k0 : PySem.W.keepIn K (.ref a0) = true)
    (g1 : PySem.W.nsIn K mainGlobals "_law_deck" = some (some (.ref a1)))
    (l1 : K.lookup a1 = some ⟨oc1, od1, .func (PySem.W.fnOf "_law_deck" "_law_deck" (defArgs (topS 16)) (defBody (topS 16)) (defScope (topS 16)) .none kV1 dc1 pm1 an1 cd1 ct1), sl1⟩)
    (c1 : PySem.W.codeIn K cd1 "_law_deck" = true)
    (k1 : PySem.W.keepIn K (.ref a1) = true)
    (g2 : PySem.W.nsIn K mainGlobals "_law_next" = some (some (.ref a2)))
    (l2 : K.lookup a2 = some ⟨oc2, od2, .func (PySem.W.fnOf "_law_next" "_law_next" (defArgs (topS 15)) (defBody (topS 15)) (defScope (topS 15)) .none kV2 dc2 pm2 an2 cd2 ct2), sl2⟩)
    (c2 : PySem.W.codeIn K cd2 "_law_next" = true)
    (k2 : PySem.W.keepIn K (.ref a2) = true)
    (g3 : PySem.W.nsIn K mainGlobals "_law_drawn" = some (some (.ref a3)))
    (l3 : K.lookup a3 = some ⟨oc3, od3, .func (PySem.W.fnOf "_law_drawn" "_law_drawn" (defArgs (topS 22)) (defBody (topS 22)) (defScope (topS 22)) .none kV3 dc3 pm3 an3 cd3 ct3), sl3⟩)
    (c3 : PySem.W.codeIn K cd3 "_law_drawn" = true)
    (k3 : PySem.W.keepIn K (.ref a3) = true)
    (g4 : PySem.W.nsIn K mainGlobals "_law_spaced" = some (some (.ref a4)))
    (l4 : K.lookup a4 = some ⟨oc4, od4, .func (PySem.W.fnOf "_law_spaced" "_law_spaced" (defArgs (topS 19)) (defBody (topS 19)) (defScope (topS 19)) .none kV4 dc4 pm4 an4 cd4 ct4), sl4⟩)
    (c4 : PySem.W.codeIn K cd4 "_law_spaced" = true)
    (k4 : PySem.W.keepIn K (.ref a4) = true)
    (g5 : PySem.W.nsIn K mainGlobals "words" = some (some (.ref a5)))
    (l5 : K.lookup a5 = some ⟨oc5, od5, .func (PySem.W.fnOf "words" "words" (defArgs (topS 8)) (defBody (topS 8)) (defScope (topS 8)) .none kV5 dc5 pm5 an5 cd5 ct5), sl5⟩)
    (c5 : PySem.W.codeIn K cd5 "words" = true)
    (k5 : PySem.W.keepIn K (.ref a5) = true)
    (g6 : PySem.W.nsIn K mainGlobals "_law_told" = some (some (.ref a6)))
    (l6 : K.lookup a6 = some ⟨oc6, od6, .func (PySem.W.fnOf "_law_told" "_law_told" (defArgs (topS 25)) (defBody (topS 25)) (defScope (topS 25)) .none kV6 dc6 pm6 an6 cd6 ct6), sl6⟩)
    (c6 : PySem.W.codeIn K cd6 "_law_told" = true)
    (k6 : PySem.W.keepIn K (.ref a6) = true)
    (g7 : PySem.W.nsIn K mainGlobals "_law_due" = some (some (.ref a7)))
    (l7 : K.lookup a7 = some ⟨oc7, od7, .func (PySem.W.fnOf "_law_due" "_law_due" (defArgs (topS 24)) (defBody (topS 24)) (defScope (topS 24)) .none kV7 dc7 pm7 an7 cd7 ct7), sl7⟩)
    (c7 : PySem.W.codeIn K cd7 "_law_due" = true)
    (k7 : PySem.W.keepIn K (.ref a7) = true)
    (g8 : PySem.W.nsIn K mainGlobals "_law_signs_right" = some (some (.ref a8)))
    (l8 : K.lookup a8 = some ⟨oc8, od8, .func (PySem.W.fnOf "_law_signs_right" "_law_signs_right" (defArgs (topS 21)) (defBody (topS 21)) (defScope (topS 21)) .none kV8 dc8 pm8 an8 cd8 ct8), sl8⟩)
    (c8 : PySem.W.codeIn K cd8 "_law_signs_right" = true)
    (k8 : PySem.W.keepIn K (.ref a8) = true)
    (g9 : PySem.W.nsIn K mainGlobals "_law_wide" = some (some (.ref a9)))
    (l9 : K.lookup a9 = some ⟨oc9, od9, .func (PySem.W.fnOf "_law_wide" "_law_wide" (defArgs (topS 14)) (defBody (topS 14)) (defScope (topS 14)) .none kV9 dc9 pm9 an9 cd9 ct9), sl9⟩)
    (c9 : PySem.W.codeIn K cd9 "_law_wide" = true)
    (k9 : PySem.W.keepIn K (.ref a9) = true)
    (g10 : PySem.W.nsIn K mainGlobals "_law_word" = some (some (.ref a10)))
    (l10 : K.lookup a10 = some ⟨oc10, od10, .func (PySem.W.fnOf "_law_word" "_law_word" (defArgs (topS 17)) (defBody (topS 17)) (defScope (topS 17)) .none kV10 dc10 pm10 an10 cd10 ct10), sl10⟩)
    (c10 : PySem.W.codeIn K cd10 "_law_word" = true)
    (k10 : PySem.W.keepIn K (.ref a10) = true)
    (g11 : PySem.W.nsIn K mainGlobals "_law_signs" = some (some (.ref a11)))
    (l11 : K.lookup a11 = some ⟨oc11, od11, .func (PySem.W.fnOf "_law_signs" "_law_signs" (defArgs (topS 20)) (defBody (topS 20)) (defScope (topS 20)) .none kV11 dc11 pm11 an11 cd11 ct11), sl11⟩)
    (c11 : PySem.W.codeIn K cd11 "_law_signs" = true)
    (k11 : PySem.W.keepIn K (.ref a11) = true)
    (g12 : PySem.W.nsIn K mainGlobals "is_name" = some (some (.ref a12)))
    (l12 : K.lookup a12 = some ⟨oc12, od12, .func (PySem.W.fnOf "is_name" "is_name" (defArgs (topS 10)) (defBody (topS 10)) (defScope (topS 10)) .none kV12 dc12 pm12 an12 cd12 ct12), sl12⟩)
    (c12 : PySem.W.codeIn K cd12 "is_name" = true)
    (k12 : PySem.W.keepIn K (.ref a12) = true)
    (g13 : PySem.W.nsIn K mainGlobals "is_mark" = some (some (.ref a13)))
    (l13 : K.lookup a13 = some ⟨oc13, od13, .func (PySem.W.fnOf "is_mark" "is_mark" (defArgs (topS 11)) (defBody (topS 11)) (defScope (topS 11)) .none kV13 dc13 pm13 an13 cd13 ct13), sl13⟩)
    (c13 : PySem.W.codeIn K cd13 "is_mark" = true)
    (k13 : PySem.W.keepIn K (.ref a13) = true)
    (g14 : PySem.W.nsIn K mainGlobals "is_open" = some (some (.ref a14)))
    (l14 : K.lookup a14 = some ⟨oc14, od14, .func (PySem.W.fnOf "is_open" "is_open" (defArgs (topS 12)) (defBody (topS 12)) (defScope (topS 12)) .none kV14 dc14 pm14 an14 cd14 ct14), sl14⟩)
    (c14 : PySem.W.codeIn K cd14 "is_open" = true)
    (k14 : PySem.W.keepIn K (.ref a14) = true)
    (g15 : PySem.W.nsIn K mainGlobals "_law_barred" = some (some (.ref a15)))
    (l15 : K.lookup a15 = some ⟨oc15, od15, .func (PySem.W.fnOf "_law_barred" "_law_barred" (defArgs (topS 18)) (defBody (topS 18)) (defScope (topS 18)) .none kV15 dc15 pm15 an15 cd15 ct15), sl15⟩)
    (c15 : PySem.W.codeIn K cd15 "_law_barred" = true)
    (k15 : PySem.W.keepIn K (.ref a15) = true)
    (g16 : PySem.W.nsIn K mainGlobals "_law_is_small" = some (some (.ref a16)))
    (l16 : K.lookup a16 = some ⟨oc16, od16, .func (PySem.W.fnOf "_law_is_small" "_law_is_small" (defArgs (topS 23)) (defBody (topS 23)) (defScope (topS 23)) .none kV16 dc16 pm16 an16 cd16 ct16), sl16⟩)
    (c16 : PySem.W.codeIn K cd16 "_law_is_small" = true)
    (k16 : PySem.W.keepIn K (.ref a16) = true)
    (g17 : PySem.W.nsIn K mainGlobals "all_in" = some (some (.ref a17)))
    (l17 : K.lookup a17 = some ⟨oc17, od17, .func (PySem.W.fnOf "all_in" "all_in" (defArgs (topS 9)) (defBody (topS 9)) (defScope (topS 9)) .none kV17 dc17 pm17 an17 cd17 ct17), sl17⟩)
    (c17 : PySem.W.codeIn K cd17 "all_in" = true)
    (k17 : PySem.W.keepIn K (.ref a17) = true)
    (w_MOST_SIGNS : PySem.W.nsIn K mainGlobals "MOST_SIGNS" = some (some (.int 8 tk0)))
    (w_BARRED_IN_MODULES : PySem.W.nsIn K mainGlobals "BARRED_IN_MODULES" = some (some (.ref t1)))
    (y1 : K.lookup t1 = some ⟨.type "tuple", to1, .seq #[.str "module" tk2, .str "use" tk3, .str "shape" tk4, .str "class" tk5, .str "house" tk6, .str "for" tk7, .str "when" tk8, .str "is" tk9, .str "end" tk10, .str "out" tk11, .str "shown" tk12, .str "hidden" tk13] tn1, ts1⟩)
    (w_BARRED : PySem.W.nsIn K mainGlobals "BARRED" = some (some (.ref t14)))
    (y14 : K.lookup t14 = some ⟨.type "tuple", to14, .seq #[.str "fun" tk15, .str "let" tk16, .str "group" tk17, .str "and" tk18, .str "in" tk19, .str "if" tk20, .str "get" tk21, .str "put" tk22, .str "match" tk23, .str "told" tk24, .str "yes" tk25, .str "no" tk26, .str "num" tk27, .str "truth" tk28] tn14, ts14⟩)
    (w_LETTERS : PySem.W.nsIn K mainGlobals "LETTERS" = some (some (.str "abcdefghijklmnopqrstuvwxyz" tk29)))
    (w_GREAT : PySem.W.nsIn K mainGlobals "GREAT" = some (some (.str "ABCDEFGHIJKLMNOPQRSTUVWXYZ" tk30)))
    (w_MOST_FIGURES : PySem.W.nsIn K mainGlobals "MOST_FIGURES" = some (some (.int 4 tk31)))
    (w_FIGURES : PySem.W.nsIn K mainGlobals "FIGURES" = some (some (.str "0123456789" tk32)))
    (z_len : PySem.W.nsIn K mainGlobals "len" = some none)
    (z_sum : PySem.W.nsIn K mainGlobals "sum" = some none)
    (z_all : PySem.W.nsIn K mainGlobals "all" = some none)
    (z_any : PySem.W.nsIn K mainGlobals "any" = some none)
    (z_min : PySem.W.nsIn K mainGlobals "min" = some none)
    (z_max : PySem.W.nsIn K mainGlobals "max" = some none)
    (z_int : PySem.W.nsIn K mainGlobals "int" = some none)
    (z_str : PySem.W.nsIn K mainGlobals "str" = some none)
    (z_list : PySem.W.nsIn K mainGlobals "list" = some none)
    (z_tuple : PySem.W.nsIn K mainGlobals "tuple" = some none)
    (z_bool : PySem.W.nsIn K mainGlobals "bool" = some none)
    (z_dict : PySem.W.nsIn K mainGlobals "dict" = some none)
    (z_isinstance : PySem.W.nsIn K mainGlobals "isinstance" = some none)
    (z_range : PySem.W.nsIn K mainGlobals "range" = some none)
    (z_enumerate : PySem.W.nsIn K mainGlobals "enumerate" = some none)
    (z_zip : PySem.W.nsIn K mainGlobals "zip" = some none)
    (z_reversed : PySem.W.nsIn K mainGlobals "reversed" = some none)
    (z_sorted : PySem.W.nsIn K mainGlobals "sorted" = some none) :
    ∃ fd : FuncData, (∀ (s : Shared) (v : Value), BindsTo s fd ⟨[v], []⟩ [("script", v)]) ∧ ∀ base : Heap, K.In base → base.Ns mainGlobals mg → FnOk l.prog w K mg base CX0 62 fa fd ["script"] (EV.spLaw K) := by
  have e := hfa.symm.trans (PySem.W.mg_of X G g0)
  cases e
  have F0 : FnIn (md K []) T B K mg 0 f0 _ _ := fn_in (fun_mk (st := (topS 26)) l0 c0 k0) rfl m0 (fun us hl => match us, hl with | [_], _ => rfl) (fun _ => PySem.W.mg_of X G g0) (fun h => by cases h)
  have F1 : FnIn (md K []) T B K mg 1 f1 a1 _ := fn_in (fun_mk (st := (topS 16)) l1 c1 k1) rfl m1 (fun us hl => match us, hl with | [_], _ => rfl) (fun _ => PySem.W.mg_of X G g1) (fun h => by cases h)
  have F2 : FnIn (md K []) T B K mg 2 f2 a2 _ := fn_in (fun_mk (st := (topS 15)) l2 c2 k2) rfl m2 (fun us hl => match us, hl with | [_], _ => rfl) (fun _ => PySem.W.mg_of X G g2) (fun h => by cases h)
  have F3 : FnIn (md K []) T B K mg 3 f3 a3 _ := fn_in (fun_mk (st := (topS 22)) l3 c3 k3) rfl m3 (fun us hl => match us, hl with | [_], _ => rfl) (fun _ => PySem.W.mg_of X G g3) (fun h => by cases h)
  have F4 : FnIn (md K []) T B K mg 4 f4 a4 _ := fn_in (fun_mk (st := (topS 19)) l4 c4 k4) rfl m4 (fun us hl => match us, hl with | [_, _], _ => rfl) (fun _ => PySem.W.mg_of X G g4) (fun h => by cases h)
  have F5 : FnIn (md K []) T B K mg 5 f5 a5 _ := fn_in (fun_mk (st := (topS 8)) l5 c5 k5) rfl m5 (fun us hl => match us, hl with | [_], _ => rfl) (fun _ => PySem.W.mg_of X G g5) (fun h => by cases h)
  have F6 : FnIn (md K []) T B K mg 6 f6 a6 _ := fn_in (fun_mk (st := (topS 25)) l6 c6 k6) rfl m6 (fun us hl => match us, hl with | [_], _ => rfl) (fun _ => PySem.W.mg_of X G g6) (fun h => by cases h)
  have F7 : FnIn (md K []) T B K mg 7 f7 a7 _ := fn_in (fun_mk (st := (topS 24)) l7 c7 k7) rfl m7 (fun us hl => match us, hl with | [_], _ => rfl) (fun _ => PySem.W.mg_of X G g7) (fun h => by cases h)
  have F8 : FnIn (md K []) T B K mg 8 f8 a8 _ := fn_in (fun_mk (st := (topS 21)) l8 c8 k8) rfl m8 (fun us hl => match us, hl with | [], _ => rfl) (fun _ => PySem.W.mg_of X G g8) (fun h => by cases h)
  have F9 : FnIn (md K []) T B K mg 9 f9 a9 _ := fn_in (fun_mk (st := (topS 14)) l9 c9 k9) rfl m9 (fun us hl => match us, hl with | [_], _ => rfl) (fun _ => PySem.W.mg_of X G g9) (fun h => by cases h)
  have F10 : FnIn (md K []) T B K mg 10 f10 a10 _ := fn_in (fun_mk (st := (topS 17)) l10 c10 k10) rfl m10 (fun us hl => match us, hl with | [_], _ => rfl) (fun _ => PySem.W.mg_of X G g10) (fun h => by cases h)
  have F11 : FnIn (md K []) T B K mg 11 f11 a11 _ := fn_in (fun_mk (st := (topS 20)) l11 c11 k11) rfl m11 (fun us hl => match us, hl with | [], _ => rfl) (fun _ => PySem.W.mg_of X G g11) (fun h => by cases h)
  have F12 : FnIn (md K []) T B K mg 12 f12 a12 _ := fn_in (fun_mk (st := (topS 10)) l12 c12 k12) rfl m12 (fun us hl => match us, hl with | [_], _ => rfl) (fun _ => PySem.W.mg_of X G g12) (fun h => by cases h)
  have F13 : FnIn (md K []) T B K mg 13 f13 a13 _ := fn_in (fun_mk (st := (topS 11)) l13 c13 k13) rfl m13 (fun us hl => match us, hl with | [_], _ => rfl) (fun _ => PySem.W.mg_of X G g13) (fun h => by cases h)
  have F14 : FnIn (md K []) T B K mg 14 f14 a14 _ := fn_in (fun_mk (st := (topS 12)) l14 c14 k14) rfl m14 (fun us hl => match us, hl with | [_], _ => rfl) (fun _ => PySem.W.mg_of X G g14) (fun h => by cases h)
  have F15 : FnIn (md K []) T B K mg 15 f15 a15 _ := fn_in (fun_mk (st := (topS 18)) l15 c15 k15) rfl m15 (fun us hl => match us, hl with | [_], _ => rfl) (fun _ => PySem.W.mg_of X G g15) (fun h => by cases h)
  have F16 : FnIn (md K []) T B K mg 16 f16 a16 _ := fn_in (fun_mk (st := (topS 23)) l16 c16 k16) rfl m16 (fun us hl => match us, hl with | [_], _ => rfl) (fun _ => PySem.W.mg_of X G g16) (fun h => by cases h)
  have F17 : FnIn (md K []) T B K mg 17 f17 a17 _ := fn_in (fun_mk (st := (topS 9)) l17 c17 k17) rfl m17 (fun us hl => match us, hl with | [_, _], _ => rfl) (fun _ => PySem.W.mg_of X G g17) (fun h => by cases h)
  have W : EV.Wd (md K []) T B K mg := {
    k := rfl
    glb := fun g x d h1 h2 => by
      match g, h1, h2 with
      | 0, h1, h2 => cases h1; cases h2; exact ⟨.int 8 tk0, .int 8, PySem.W.mg_of X G w_MOST_SIGNS, ⟨_, rfl⟩, rfl⟩
      | 1, h1, h2 => cases h1; cases h2; exact ⟨.ref t1, .ref t1, PySem.W.mg_of X G w_BARRED_IN_MODULES, rfl, ⟨t1, [.str "module", .str "use", .str "shape", .str "class", .str "house", .str "for", .str "when", .str "is", .str "end", .str "out", .str "shown", .str "hidden"], rfl, .inr ⟨.inr ⟨_, _, _, y1, rfl, rfl, (by show 12 ≤ sizeLine; decide), .cons (⟨_, rfl⟩) (.cons (⟨_, rfl⟩) (.cons (⟨_, rfl⟩) (.cons (⟨_, rfl⟩) (.cons (⟨_, rfl⟩) (.cons (⟨_, rfl⟩) (.cons (⟨_, rfl⟩) (.cons (⟨_, rfl⟩) (.cons (⟨_, rfl⟩) (.cons (⟨_, rfl⟩) (.cons (⟨_, rfl⟩) (.cons (⟨_, rfl⟩) (.nil))))))))))))⟩, (by intro κ e; cases e; all_goals (show _ ∈ gkA B.G; exact inGk_iff.mp (by decide +kernel)))⟩, ⟨_, _, rfl, rfl, ⟨_, _, rfl, rfl, ⟨_, _, rfl, rfl, ⟨_, _, rfl, rfl, ⟨_, _, rfl, rfl, ⟨_, _, rfl, rfl, ⟨_, _, rfl, rfl, ⟨_, _, rfl, rfl, ⟨_, _, rfl, rfl, ⟨_, _, rfl, rfl, ⟨_, _, rfl, rfl, ⟨_, _, rfl, rfl, rfl⟩⟩⟩⟩⟩⟩⟩⟩⟩⟩⟩⟩⟩⟩
      | 2, h1, h2 => cases h1; cases h2; exact ⟨.ref t14, .ref t14, PySem.W.mg_of X G w_BARRED, rfl, ⟨t14, [.str "fun", .str "let", .str "group", .str "and", .str "in", .str "if", .str "get", .str "put", .str "match", .str "told", .str "yes", .str "no", .str "num", .str "truth"], rfl, .inr ⟨.inr ⟨_, _, _, y14, rfl, rfl, (by show 14 ≤ sizeLine; decide), .cons (⟨_, rfl⟩) (.cons (⟨_, rfl⟩) (.cons (⟨_, rfl⟩) (.cons (⟨_, rfl⟩) (.cons (⟨_, rfl⟩) (.cons (⟨_, rfl⟩) (.cons (⟨_, rfl⟩) (.cons (⟨_, rfl⟩) (.cons (⟨_, rfl⟩) (.cons (⟨_, rfl⟩) (.cons (⟨_, rfl⟩) (.cons (⟨_, rfl⟩) (.cons (⟨_, rfl⟩) (.cons (⟨_, rfl⟩) (.nil))))))))))))))⟩, (by intro κ e; cases e; all_goals (show _ ∈ gkA B.G; exact inGk_iff.mp (by decide +kernel)))⟩, ⟨_, _, rfl, rfl, ⟨_, _, rfl, rfl, ⟨_, _, rfl, rfl, ⟨_, _, rfl, rfl, ⟨_, _, rfl, rfl, ⟨_, _, rfl, rfl, ⟨_, _, rfl, rfl, ⟨_, _, rfl, rfl, ⟨_, _, rfl, rfl, ⟨_, _, rfl, rfl, ⟨_, _, rfl, rfl, ⟨_, _, rfl, rfl, ⟨_, _, rfl, rfl, ⟨_, _, rfl, rfl, rfl⟩⟩⟩⟩⟩⟩⟩⟩⟩⟩⟩⟩⟩⟩⟩⟩
      | 3, h1, h2 => cases h1; cases h2; exact ⟨.str "abcdefghijklmnopqrstuvwxyz" tk29, .str "abcdefghijklmnopqrstuvwxyz", PySem.W.mg_of X G w_LETTERS, ⟨_, rfl⟩, rfl⟩
      | 4, h1, h2 => cases h1; cases h2; exact ⟨.str "ABCDEFGHIJKLMNOPQRSTUVWXYZ" tk30, .str "ABCDEFGHIJKLMNOPQRSTUVWXYZ", PySem.W.mg_of X G w_GREAT, ⟨_, rfl⟩, rfl⟩
      | 5, h1, h2 => cases h1; cases h2; exact ⟨.int 4 tk31, .int 4, PySem.W.mg_of X G w_MOST_FIGURES, ⟨_, rfl⟩, rfl⟩
      | 6, h1, h2 => cases h1; cases h2; exact ⟨.str "0123456789" tk32, .str "0123456789", PySem.W.mg_of X G w_FIGURES, ⟨_, rfl⟩, rfl⟩
      | n + 7, h1, _ => exact absurd (show T.glb[n + 7]? = some x from h1) (by simp [T])
    blt := fun x hx => by
      simp only [bltNames, List.mem_cons, List.not_mem_nil, or_false] at hx
      rcases hx with rfl | rfl | rfl | rfl | rfl | rfl | rfl | rfl | rfl | rfl | rfl | rfl | rfl | rfl | rfl | rfl | rfl | rfl
      · exact PySem.W.mg_none_of X G z_len
      · exact PySem.W.mg_none_of X G z_sum
      · exact PySem.W.mg_none_of X G z_all
      · exact PySem.W.mg_none_of X G z_any
      · exact PySem.W.mg_none_of X G z_min
      · exact PySem.W.mg_none_of X G z_max
      · exact PySem.W.mg_none_of X G z_int
      · exact PySem.W.mg_none_of X G z_str
      · exact PySem.W.mg_none_of X G z_list
      · exact PySem.W.mg_none_of X G z_tuple
      · exact PySem.W.mg_none_of X G z_bool
      · exact PySem.W.mg_none_of X G z_dict
      · exact PySem.W.mg_none_of X G z_isinstance
      · exact PySem.W.mg_none_of X G z_range
      · exact PySem.W.mg_none_of X G z_enumerate
      · exact PySem.W.mg_none_of X G z_zip
      · exact PySem.W.mg_none_of X G z_reversed
      · exact PySem.W.mg_none_of X G z_sorted
    fns := fun f F hF => by
      match f, hF with
      | 0, h1 => cases h1; exact ⟨_, _, F0⟩
      | 1, h1 => cases h1; exact ⟨_, _, F1⟩
      | 2, h1 => cases h1; exact ⟨_, _, F2⟩
      | 3, h1 => cases h1; exact ⟨_, _, F3⟩
      | 4, h1 => cases h1; exact ⟨_, _, F4⟩
      | 5, h1 => cases h1; exact ⟨_, _, F5⟩
      | 6, h1 => cases h1; exact ⟨_, _, F6⟩
      | 7, h1 => cases h1; exact ⟨_, _, F7⟩
      | 8, h1 => cases h1; exact ⟨_, _, F8⟩
      | 9, h1 => cases h1; exact ⟨_, _, F9⟩
      | 10, h1 => cases h1; exact ⟨_, _, F10⟩
      | 11, h1 => cases h1; exact ⟨_, _, F11⟩
      | 12, h1 => cases h1; exact ⟨_, _, F12⟩
      | 13, h1 => cases h1; exact ⟨_, _, F13⟩
      | 14, h1 => cases h1; exact ⟨_, _, F14⟩
      | 15, h1 => cases h1; exact ⟨_, _, F15⟩
      | 16, h1 => cases h1; exact ⟨_, _, F16⟩
      | 17, h1 => cases h1; exact ⟨_, _, F17⟩
      | n + 18, h1 => exact absurd (show T.fns[n + 18]? = some F from h1) (by simp [T])
    cls := fun c x h => by
      match c, h with

      | n + 0, h1 => exact absurd (show T.cnm[n + 0]? = some x from h1) (by simp [T])
    fcl := fcl_of (by decide +kernel)
    new := fun c x ns h h2 => by
      match c, h, h2 with

      | n + 0, h1, _ => exact absurd (show T.cnm[n + 0]? = some x from h1) (by simp [T])
    fnm := fun _ => rfl
    fnd := by decide +kernel
    mnm := mnm_of (by decide +kernel)
    nc := rfl
    gk := rfl }
  exact ⟨_, fun s v => .of_eq (F0.bnd [v] rfl), fun base _ _ => law_ok (F := f0) W rfl F0 rfl law⟩
end K01
open PySem PySem.W PyProof.Rows
set_option maxRecDepth 100000 in
set_option maxHeartbeats 0 in
theorem PySem.Challenge.cw_kindreach_k01_words_and_names_holds : PySem.Challenge.rw_kindreach_k01_words_and_names.Holds := by
  w_on; o_law; k_head; (case hw => w_witness2)
  k_fill
  refine L2.walk_of (l := PySem.Challenge.rw_kindreach_k01_words_and_names) (n := 63) (k := 62) (x := "script") (CX := fun _ => L2.CX0) (sp := fun w => EV.spLaw _) rfl (by decide) rfl ⟨rfl, by decide, by decide⟩ (fun w h Y => by first | exact PySem.W.kIn_of Y | exact PySem.W.km_in_of Y) ?F (fun _ _ a ns hl _ hS => ⟨a, ns, rfl, hS, hl, fun _ => rfl⟩) (fun _ _ _ _ _ h => h)
  case F =>
    intro w mg fa h KX G hmg
    refine' K01.all_mk KX G hmg ?hyg0 ?hyl0 ?hyc0 ?hyk0 ?hyg1 ?hyl1 ?hyc1 ?hyk1 ?hyg2 ?hyl2 ?hyc2 ?hyk2 ?hyg3 ?hyl3 ?hyc3 ?hyk3 ?hyg4 ?hyl4 ?hyc4 ?hyk4 ?hyg5 ?hyl5 ?hyc5 ?hyk5 ?hyg6 ?hyl6 ?hyc6 ?hyk6 ?hyg7 ?hyl7 ?hyc7 ?hyk7 ?hyg8 ?hyl8 ?hyc8 ?hyk8 ?hyg9 ?hyl9 ?hyc9 ?hyk9 ?hyg10 ?hyl10 ?hyc10 ?hyk10 ?hyg11 ?hyl11 ?hyc11 ?hyk11 ?hyg12 ?hyl12 ?hyc12 ?hyk12 ?hyg13 ?hyl13 ?hyc13 ?hyk13 ?hyg14 ?hyl14 ?hyc14 ?hyk14 ?hyg15 ?hyl15 ?hyc15 ?hyk15 ?hyg16 ?hyl16 ?hyc16 ?hyk16 ?hyg17 ?hyl17 ?hyc17 ?hyk17 ?hyw_MOST_SIGNS ?hyw_BARRED_IN_MODULES ?hyy1 ?hyw_BARRED ?hyy14 ?hyw_LETTERS ?hyw_GREAT ?hyw_MOST_FIGURES ?hyw_FIGURES ?hyz_len ?hyz_sum ?hyz_all ?hyz_any ?hyz_min ?hyz_max ?hyz_int ?hyz_str ?hyz_list ?hyz_tuple ?hyz_bool ?hyz_dict ?hyz_isinstance ?hyz_range ?hyz_enumerate ?hyz_zip ?hyz_reversed ?hyz_sorted
    (case hyg0 => k_is); (case hyl0 => k_is); (case hyc0 => k_is); (case hyk0 => k_is)
    (case hyg1 => k_is); (case hyl1 => k_is); (case hyc1 => k_is); (case hyk1 => k_is)
    (case hyg2 => k_is); (case hyl2 => k_is); (case hyc2 => k_is); (case hyk2 => k_is)
    (case hyg3 => k_is); (case hyl3 => k_is); (case hyc3 => k_is); (case hyk3 => k_is)
    (case hyg4 => k_is); (case hyl4 => k_is); (case hyc4 => k_is); (case hyk4 => k_is)
    (case hyg5 => k_is); (case hyl5 => k_is); (case hyc5 => k_is); (case hyk5 => k_is)
    (case hyg6 => k_is); (case hyl6 => k_is); (case hyc6 => k_is); (case hyk6 => k_is)
    (case hyg7 => k_is); (case hyl7 => k_is); (case hyc7 => k_is); (case hyk7 => k_is)
    (case hyg8 => k_is); (case hyl8 => k_is); (case hyc8 => k_is); (case hyk8 => k_is)
    (case hyg9 => k_is); (case hyl9 => k_is); (case hyc9 => k_is); (case hyk9 => k_is)
    (case hyg10 => k_is); (case hyl10 => k_is); (case hyc10 => k_is); (case hyk10 => k_is)
    (case hyg11 => k_is); (case hyl11 => k_is); (case hyc11 => k_is); (case hyk11 => k_is)
    (case hyg12 => k_is); (case hyl12 => k_is); (case hyc12 => k_is); (case hyk12 => k_is)
    (case hyg13 => k_is); (case hyl13 => k_is); (case hyc13 => k_is); (case hyk13 => k_is)
    (case hyg14 => k_is); (case hyl14 => k_is); (case hyc14 => k_is); (case hyk14 => k_is)
    (case hyg15 => k_is); (case hyl15 => k_is); (case hyc15 => k_is); (case hyk15 => k_is)
    (case hyg16 => k_is); (case hyl16 => k_is); (case hyc16 => k_is); (case hyk16 => k_is)
    (case hyg17 => k_is); (case hyl17 => k_is); (case hyc17 => k_is); (case hyk17 => k_is)
    (case hyw_MOST_SIGNS => k_is); (case hyw_BARRED_IN_MODULES => k_is); (case hyy1 => k_is); (case hyw_BARRED => k_is)
    (case hyy14 => k_is); (case hyw_LETTERS => k_is); (case hyw_GREAT => k_is); (case hyw_MOST_FIGURES => k_is)
    (case hyw_FIGURES => k_is); (case hyz_len => k_is); (case hyz_sum => k_is); (case hyz_all => k_is)
    (case hyz_any => k_is); (case hyz_min => k_is); (case hyz_max => k_is); (case hyz_int => k_is)
    (case hyz_str => k_is); (case hyz_list => k_is); (case hyz_tuple => k_is); (case hyz_bool => k_is)
    (case hyz_dict => k_is); (case hyz_isinstance => k_is); (case hyz_range => k_is); (case hyz_enumerate => k_is)
    (case hyz_zip => k_is); (case hyz_reversed => k_is); (case hyz_sorted => k_is)
