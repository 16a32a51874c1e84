import PyProof.Rows.All
import Wide.All
import OpenK.AllK
import Wide.FinOn
import PySem.Str
import PyProof.StrCalls6
import HandS.ForMost
import HandS.ForExc
import HandS.IsInst
import HandS.TupAny
import KE.DataCmp
import KE.DataEq
import HandS.DictTup
import HandS.Style
import KE.SortData
import HandS.Strs
import HandS.Conv
import HandS.RaiseMore
import HandS.TupLen
import HandS.Codes
import HandS.StrMore
import HandS.Flow
import HandS.CallLocal
import HandS.ExcIs
import HandS.CallSlots
import HandS.ExcOwn
import HandS.WordsExc
import HandS.Iter
import HandS.Comp
import HandS.TryOnly
import HandS.Small
import HandS.EndBits
import KE.KUnpack
import HandS.ReplaceLit
import KE.KUnpackStar
import PySem.Challenge.RW_slipscaught_k81_notes_of_weights
set_option linter.all false
set_option maxRecDepth 100000
/-! EVa: tree values, the IR of the Python fragment, its evaluator (pure Lean; nothing of the model but Str). -/
namespace EV
open PySem

/-- a value as a tree -/
inductive PV where
  | non | bl (b : Bool) | int (i : Int) | str (s : List Nat)
  | tup (xs : List PV) | lst (xs : List PV)
  | dct (t : Bool) (ks vs : List PV)
  | fn (f : Nat) | cls (c : Nat) | ty (t : Nat)
  | ctp (xs : List PV) | cdt (ks vs : List PV)
  | obj (c : Nat) (ns : List Nat) (vs : List PV)
deriving Inhabited

/-- the longest text, the longest list -/
abbrev SL : Nat := 16000000
abbrev LL : Nat := 16777216

mutual
def eqv : PV → PV → Bool
  | .non, .non => true
  | .bl a, .bl b => a == b
  | .bl a, .int j => (if a then 1 else 0) == j
  | .int i, .bl b => i == (if b then 1 else 0)
  | .int i, .int j => i == j
  | .str a, .str b => a == b
  | .tup xs, .tup ys => eqvs xs ys
  | .lst xs, .lst ys => eqvs xs ys
  | _, _ => false
def eqvs : List PV → List PV → Bool
  | [], [] => true
  | x :: xs, y :: ys => eqv x y && eqvs xs ys
  | _, _ => false
end
mutual
/-- data without dicts, defs, objects, of a depth below n -/
def plain : PV → Bool
  | .non => true
  | .bl _ => true
  | .int _ => true
  | .str _ => true
  | .tup xs => plains xs
  | .lst xs => plains xs
  | _ => false
def plains : List PV → Bool
  | [] => true
  | x :: xs => plain x && plains xs
end
mutual
def dep : PV → Nat
  | .tup xs => deps xs + 1
  | .lst xs => deps xs + 1
  | _ => 0
def deps : List PV → Nat
  | [] => 0
  | x :: xs => max (dep x) (deps xs)
end
def flat : PV → Bool
  | .non => true
  | .bl _ => true
  | .int _ => true
  | .str _ => true
  | _ => false
mutual
/-- the two can be ordered -/
def alk : PV → PV → Bool
  | .bl _, .bl _ => true
  | .int _, .int _ => true
  | .str _, .str _ => true
  | .tup xs, .tup ys => alks xs ys
  | .lst xs, .lst ys => alks xs ys
  | _, _ => false
def alks : List PV → List PV → Bool
  | x :: xs, y :: ys => alk x y && alks xs ys
  | [], _ => true
  | _ :: _, [] => true
end
/-- texts by their signs -/
def ltS : List Nat → List Nat → Bool
  | [], [] => false
  | [], _ :: _ => true
  | _ :: _, [] => false
  | a :: r, b :: t => if a = b then ltS r t else decide (a < b)
mutual
def ltv : PV → PV → Bool
  | .bl a, .bl b => !a && b
  | .int i, .int j => decide (i < j)
  | .str a, .str b => ltS a b
  | .tup xs, .tup ys => ltvs xs ys
  | .lst xs, .lst ys => ltvs xs ys
  | _, _ => false
def ltvs : List PV → List PV → Bool
  | [], [] => false
  | [], _ :: _ => true
  | _ :: _, [] => false
  | x :: xs, y :: ys => if eqv x y then ltvs xs ys else ltv x y
end
def lev (x y : PV) : Bool := !ltv y x

inductive Md where | sh | bo | fr
deriving DecidableEq, Inhabited

/-- an exception of an own class, with its field -/
structure Ex where
  c : Nat
  f : Option PV
deriving Inhabited

inductive Rs where
  | ok (m : Md) (v : PV)
  | ex (x : Ex)
  | bad
deriving Inhabited
inductive Rl where
  | ok (nob : Bool) (vs : List PV)
  | ex (x : Ex)
  | bad
deriving Inhabited


/-- unset; shared; owned here; the exception that is handled -/
inductive Sl where | un | sh (v : PV) | ow (v : PV) | xc (c : Nat) (f : Option PV)
deriving Inhabited
abbrev Env := List Sl

inductive BO where | add | sub | mul | fdiv | mod | pow
deriving DecidableEq
inductive CO where | eq | ne | lt | le | gt | ge | isin | notin | is | isnot
deriving DecidableEq
/-- built-ins by name -/
inductive BF where | len | all | any | sorted | list | tuple | int | str | isinst | min | max | sum | dict | set
deriving DecidableEq
/-- methods of built-in types -/
inductive MF where | join | split | startswith | replace1 | index | get | items
deriving DecidableEq
/-- what is walked -/
inductive IK where | seq | rng | enum | zip | rev | items
deriving DecidableEq

inductive Tg where
  | v (i : Nat)
  | t (is : List Nat)

mutual
inductive IR where
  | loc (i : Nat)
  | cst (v : PV)
  | neg (a : IR) | nt (a : IR)
  | bin (o : BO) (a b : IR)
  | cmp (o : CO) (a b : IR)
  | chn (o o' : CO) (a b c : IR)
  | and (a b : IR) | or (a b : IR) | ite (c a b : IR)
  | tup (es : IRs) | lst (es : IRs) | emp (t : Bool)
  | sub (a i : IR) | slc (a : IR) (lo hi : IRs) | rvs (a : IR)
  | call (f : Nat) (as : IRs) | calv (i : Nat) (as : IRs)
  | blt (b : BF) (as : IRs)
  | mth (m : MF) (o : IR) (as : IRs)
  | xfl (i : Nat) (c : Nat) | xis (i : Nat) (cs : List Nat)
  | lc (tg : Tg) (k : IK) (src : IRs) (cond : IRs) (elt : IR)
  | lcx (tg : Tg) (k : IK) (src : IRs) (cond : IRs) (elt : IR)
  | altZ (i : Nat) (a b : IR)
  | lc2 (tg : Tg) (k : IK) (src : IRs) (cond : IRs) (tg2 : Tg) (k2 : IK) (src2 : IRs) (cond2 : IRs) (elt : IR)
  | dc (t : Bool) (tg : Tg) (k : IK) (src : IRs) (cond : IRs) (key elt : IR)
inductive IRs where
  | nil | cons (a : IR) (as : IRs)
end

/-! ### the operations on trees -/
def seqOf : PV → Option (List PV)
  | .lst xs => some xs
  | .tup xs => some xs
  | _ => none
def ixI (n : Nat) (i : Int) : Option Nat :=
  if 0 ≤ i then (if i < n then some i.toNat else none) else (if -(n : Int) ≤ i then some (i + n).toNat else none)
def atP {α : Type} (xs : List α) (i : Int) : Option α := (ixI xs.length i).bind fun j => xs[j]?
/-- a slice's bound: as Python clips it -/
def clp (n : Nat) (d : Nat) : Option Int → Nat
  | none => d
  | some v => if v < 0 then (v + (n : Int)).toNat else min v.toNat n
def cut {α : Type} (xs : List α) (lo hi : Option Int) : List α :=
  (xs.drop (clp xs.length 0 lo)).take (clp xs.length xs.length hi - clp xs.length 0 lo)

/-- x in xs -/
def inP (x : PV) (xs : List PV) : Bool := xs.any fun y => eqv y x
/-- is the text a part of the text -/
def pre : List Nat → List Nat → Bool
  | [], _ => true
  | _ :: _, [] => false
  | a :: r, b :: t => a == b && pre r t
/-- a dict's place of a key -/
def ixOf (k : PV) : List PV → Option Nat
  | [] => none
  | x :: xs => if eqv x k then some 0 else (ixOf k xs).map (· + 1)
def getK (k : PV) : List PV → List PV → Option PV
  | x :: xs, v :: vs => if eqv x k then some v else getK k xs vs
  | _, _ => none
def hasK (k : PV) (ks : List PV) : Bool := ks.any fun x => eqv x k
def putKs (k : PV) (ks : List PV) : List PV := if hasK k ks then ks else ks ++ [k]
def repVs (k v : PV) : List PV → List PV → List PV
  | x :: xs, y :: ys => (if eqv x k then v else y) :: repVs k v xs ys
  | _, _ => []
def putVs (k v : PV) (ks vs : List PV) : List PV := if hasK k ks then repVs k v ks vs else vs ++ [v]
/-- a key of a dict of the kind t -/
def keyOk (t : Bool) : PV → Bool
  | .int _ => !t
  | .str _ => !t
  | .tup xs => t && xs.all fun x => match x with | .int _ => true | .str _ => true | _ => false
  | _ => false

def splitOn (c : Nat) : List Nat → List (List Nat)
  | [] => [[]]
  | a :: r => if a = c then [] :: splitOn c r else
    match splitOn c r with
    | [] => [[a]]
    | w :: ws => (a :: w) :: ws
def joinS (sep : List Nat) : List (List Nat) → List Nat
  | [] => []
  | [x] => x
  | x :: y :: r => x ++ sep ++ joinS sep (y :: r)
def strsOf : List PV → Option (List (List Nat))
  | [] => some []
  | .str s :: r => (strsOf r).map (s :: ·)
  | _ :: _ => none
def intsOf : List PV → Option (List Int)
  | [] => some []
  | .int i :: r => (intsOf r).map (i :: ·)
  | _ :: _ => none
/-- the first c replaced by the text -/
def repl1 (c : Nat) (t : List Nat) : List Nat → List Nat
  | [] => []
  | a :: r => if a = c then t ++ r else a :: repl1 c t r

def numD (n : Nat) : List Nat := (Nat.toDigits 10 n).map Char.toNat
def isFig (c : Nat) : Bool := decide (48 ≤ c) && decide (c ≤ 57)
def readN (s : List Nat) : Nat := s.foldl (fun acc c => acc * 10 + (c - 48)) 0

/-- is the value of the type: types by number: 0 int, 1 str, 2 list, 3 tuple, 4 bool -/
def isTy (v : PV) : Nat → Option Bool
  | 0 => match v with | .int _ => some true | .bl _ => some true | .non => some false | .str _ => some false | .lst _ => some false | .tup _ => some false | _ => none
  | 1 => match v with | .str _ => some true | .int _ => some false | .bl _ => some false | .non => some false | .lst _ => some false | .tup _ => some false | _ => none
  | 2 => match v with | .lst _ => some true | .int _ => some false | .bl _ => some false | .non => some false | .str _ => some false | .tup _ => some false | _ => none
  | 3 => match v with | .tup _ => some true | .int _ => some false | .bl _ => some false | .non => some false | .str _ => some false | .lst _ => some false | _ => none
  | 4 => match v with | .bl _ => some true | .int _ => some false | .non => some false | .str _ => some false | .lst _ => some false | .tup _ => some false | _ => none
  | _ => none

/-- truth -/
def tvP : PV → Option Bool
  | .non => some false
  | .bl b => some b
  | .int i => some (i != 0)
  | .str s => some (!s.isEmpty)
  | .lst xs => some (!xs.isEmpty)
  | .tup xs => some (!xs.isEmpty)
  | _ => none

def allT : List PV → Option Bool
  | [] => some true
  | .bl b :: r => (allT r).map (b && ·)
  | _ :: _ => none
def anyT : List PV → Option Bool
  | [] => some false
  | .bl b :: r => (anyT r).map (b || ·)
  | _ :: _ => none

def small (i : Int) : Bool := decide (-(2 ^ 64) < i) && decide (i < 2 ^ 64)

def binP : BO → PV → PV → Rs
  | .add, .int i, .int j => .ok .sh (.int (i + j))
  | .add, .str a, .str b => if a.length + b.length ≤ SL then .ok .sh (.str (a ++ b)) else .bad
  | .add, .lst a, .lst b => if a.length + b.length ≤ LL then .ok .fr (.lst (a ++ b)) else .bad
  | .add, .tup a, .tup b => if a.length + b.length ≤ LL then .ok .sh (.tup (a ++ b)) else .bad
  | .sub, .int i, .int j => .ok .sh (.int (i - j))
  | .mul, .int i, .int j => if small i || small j then .ok .sh (.int (i * j)) else .bad
  | .mul, .lst a, .int j => if 0 ≤ j && j ≤ 1000000 && decide (a.length * j.toNat ≤ LL) then .ok .fr (.lst (List.replicate j.toNat a).flatten) else .bad
  | .mul, .str a, .int j => if 2 ≤ j && j ≤ 1000000 && decide (0 < a.length) && decide (a.length * j.toNat ≤ SL) then .ok .sh (.str (List.replicate j.toNat a).flatten) else .bad
  | .fdiv, .int i, .int j => if 0 < j && j < 1073741824 then .ok .sh (.int (i / j)) else .bad
  | .mod, .int i, .int j => if 0 < j then .ok .sh (.int (i % j)) else .bad
  | .pow, .int i, .int j => if 0 ≤ j && j ≤ 1000 && small i then .ok .sh (.int (i ^ j.toNat)) else .bad
  | _, _, _ => .bad
def sgn : PV → Option Nat
  | .str [c] => some c
  | _ => none
def isNonP : PV → Bool
  | .non => true
  | _ => false
/-- comparisons: a truth value or nothing -/
def cmpP : CO → PV → PV → Option Bool
  | .eq, x, y => if plain x && plain y && decide (dep x ≤ 32) && decide (dep y ≤ 32) then some (eqv x y) else none
  | .ne, x, y => if plain x && plain y && decide (dep x ≤ 32) && decide (dep y ≤ 32) then some (!eqv x y) else none
  | .lt, x, y => if plain x && plain y && alk x y && decide (dep x ≤ 32) && decide (dep y ≤ 32) then some (ltv x y) else none
  | .le, x, y => if plain x && plain y && alk x y && decide (dep x ≤ 32) && decide (dep y ≤ 32) then some (!ltv y x) else none
  | .gt, x, y => if plain x && plain y && alk x y && decide (dep x ≤ 32) && decide (dep y ≤ 32) then some (ltv y x) else none
  | .ge, x, y => if plain x && plain y && alk x y && decide (dep x ≤ 32) && decide (dep y ≤ 32) then some (!ltv x y) else none
  | .isin, x, .str b => (sgn x).map fun c => b.contains c
  | .notin, x, .str b => (sgn x).map fun c => !b.contains c
  | .isin, x, .dct t ks _ => if keyOk t x then some ((getK x ks ks).isSome) else none
  | .notin, x, .dct t ks _ => if keyOk t x then some (!(getK x ks ks).isSome) else none
  | .isin, x, .lst ys => if plain x && plains ys && decide (dep x ≤ 32) && decide (deps ys ≤ 32) then some (inP x ys) else none
  | .notin, x, .lst ys => if plain x && plains ys && decide (dep x ≤ 32) && decide (deps ys ≤ 32) then some (!inP x ys) else none
  | .isin, x, .tup ys => if plain x && plains ys && decide (dep x ≤ 32) && decide (deps ys ≤ 32) then some (inP x ys) else none
  | .notin, x, .tup ys => if plain x && plains ys && decide (dep x ≤ 32) && decide (deps ys ≤ 32) then some (!inP x ys) else none
  | .isin, x, .ctp ys => if plain x && plains ys && decide (dep x ≤ 32) && decide (deps ys ≤ 32) then some (inP x ys) else none
  | .notin, x, .ctp ys => if plain x && plains ys && decide (dep x ≤ 32) && decide (deps ys ≤ 32) then some (!inP x ys) else none
  | .is, x, .non => some (isNonP x)
  | .isnot, x, .non => some (!isNonP x)
  | .is, .bl a, .bl b => some (a == b)
  | .isnot, .bl a, .bl b => some (!(a == b))
  | _, _, _ => none
def ofB : Option Bool → Rs
  | some b => .ok .sh (.bl b)
  | none => .bad
def ofV (m : Md) : Option PV → Rs
  | some v => .ok m v
  | none => .bad
def subP : PV → PV → Option PV
  | .lst xs, .int i => atP xs i
  | .tup xs, .int i => atP xs i
  | .str s, .int i => (atP s i).map fun c => .str [c]
  | .dct t ks vs, k => if keyOk t k then getK k ks vs else none
  | .cdt _ vs, .int i => atP vs i
  | _, _ => none
def slcP : PV → Option Int → Option Int → Rs
  | .lst xs, lo, hi => .ok .fr (.lst (cut xs lo hi))
  | .tup xs, lo, hi => .ok .sh (.tup (cut xs lo hi))
  | .str s, lo, hi => .ok .sh (.str (cut s lo hi))
  | _, _, _ => .bad
def rvsP : PV → Rs
  | .str s => .ok .sh (.str s.reverse)
  | .lst s => .ok .fr (.lst s.reverse)
  | _ => .bad
def isTup : PV → Bool
  | .tup (_ :: _) => true
  | _ => false
def noTup : PV → Bool
  | .tup _ => false
  | _ => true
def alkAll (xs : List PV) : Bool := plains xs && decide (deps xs ≤ 32) && (xs.all isTup || xs.all noTup) && xs.all fun x => xs.all fun y => alk x y
def sortP (xs : List PV) : List PV := xs.mergeSort lev
def minP : List PV → Option PV
  | [] => none
  | x :: xs => some (xs.foldl (fun a b => if ltv b a then b else a) x)
def maxP : List PV → Option PV
  | [] => none
  | x :: xs => some (xs.foldl (fun a b => if ltv a b then b else a) x)
def bltP : BF → List PV → Rs
  | .len, [.lst xs] => .ok .sh (.int xs.length)
  | .len, [.tup xs] => .ok .sh (.int xs.length)
  | .len, [.cdt _ xs] => .ok .sh (.int xs.length)
  | .len, [.str s] => .ok .sh (.int s.length)
  | .len, [.dct false ks _] => .ok .sh (.int ks.length)
  | .all, [.lst xs] => ofB (allT xs)
  | .any, [.lst xs] => ofB (anyT xs)
  | .sorted, [.lst xs] => if alkAll xs && decide (xs.length ≤ LL) then .ok .fr (.lst (sortP xs)) else .bad
  | .list, [.lst xs] => .ok .fr (.lst xs)
  | .list, [.tup xs] => .ok .fr (.lst xs)
  | .list, [.ctp xs] => .ok .fr (.lst xs)
  | .list, [.dct _ ks _] => .ok .fr (.lst ks)
  | .tuple, [.lst xs] => .ok .sh (.tup xs)
  | .tuple, [.tup xs] => .ok .sh (.tup xs)
  | .int, [.int i] => .ok .sh (.int i)
  | .int, [.bl b] => .ok .sh (.int (if b then 1 else 0))
  | .int, [.str s] => if s.all isFig && decide (0 < s.length) && decide (s.length ≤ 600) then .ok .sh (.int (readN s)) else .bad
  | .str, [.int i] => if 0 ≤ i && small i then .ok .sh (.str (numD i.toNat)) else .bad
  | .str, [.str s] => .ok .sh (.str s)
  | .isinst, [v, .ty t] => ofB (isTy v t)
  | .isinst, [v, .tup [.ty t, .ty u]] => match isTy v t, isTy v u with
    | some a, some b => .ok .sh (.bl (a || b))
    | _, _ => .bad
  | .min, [.int i, .int j] => .ok .sh (.int (if j < i then j else i))
  | .max, [.int i, .int j] => .ok .sh (.int (if j > i then j else i))
  | .sum, [.lst xs] => match intsOf xs with
    | some is => .ok .sh (.int is.sum)
    | none => .bad
  | _, _ => .bad
/-- the first y in x, replaced by z -/
def rep1T (x y z : Str) : Str :=
  if ((Builtin.Str.occurrences x y 0 x.length 1).isEmpty || (y.length == 0 && z.length == 0)) = true then x else Builtin.Str.glued z (Builtin.Str.partsBetween x (Builtin.Str.occurrences x y 0 x.length 1) y.length)
def rep1 (s y z : List Nat) : List Nat := (rep1T ⟨s.toArray⟩ ⟨y.toArray⟩ ⟨z.toArray⟩).cps.toList
def mthP : MF → PV → List PV → Rs
  | .join, .str s, [.lst xs] => match strsOf xs with
    | some ys => if (ys.map (·.length)).sum + ys.length * s.length ≤ SL then .ok .sh (.str (joinS s ys)) else .bad
    | none => .bad
  | .split, .str s, [.str [c]] => if 128 ≤ c then .bad else .ok .fr (.lst ((splitOn c s).map .str))
  | .startswith, .str s, [.str t] => .ok .sh (.bl (pre t s))
  | .replace1, .str s, [.str y, .str z, .int 1] => if y ≠ z ∧ s.length + z.length ≤ SL ∧ (rep1 s y z).length ≤ SL then .ok .sh (.str (rep1 s y z)) else .bad
  | .index, .str s, [.str [c]] => match s.idxOf? c with
    | some i => .ok .sh (.int i)
    | none => .bad
  | _, _, _ => .bad

def rngL (lo hi : Int) : List PV := (List.range (hi - lo).toNat).map fun k => .int (lo + (k : Nat))
def inR (i : Int) : Bool := decide (-4194304 ≤ i) && decide (i ≤ 8388608)
/-- the items that are walked -/
def itm : IK → List PV → Option (List PV)
  | .seq, [.lst xs] => some xs
  | .seq, [.tup xs] => some xs
  | .seq, [.ctp xs] => some xs
  | .seq, [.str s] => some (s.map fun c => .str [c])
  | .rng, [.int j] => if inR j then some (rngL 0 j) else none
  | .rng, [.int i, .int j] => if inR i && inR j then some (rngL i j) else none
  | .enum, [.lst xs] => some (xs.zipIdx.map fun p => .tup [.int p.2, p.1])
  | .zip, [.lst xs, .lst ys] => some (List.zipWith (fun x y => .tup [x, y]) xs ys)
  | _, _ => none

def upd1 (env : Env) (i : Nat) (v : PV) : Env := env.set i (.sh v)
def updL : Env → List Nat → List PV → Option Env
  | env, [], [] => some env
  | env, i :: is, v :: vs => updL (env.set i (.sh v)) is vs
  | _, _, _ => none
def tgB (tg : Tg) (v : PV) (env : Env) : Option Env :=
  match tg with
  | .v i => some (env.set i (.sh v))
  | .t is => match v with
    | .tup vs => updL env is vs
    | .lst vs => updL env is vs
    | _ => none
def slots : Tg → List Nat
  | .v i => [i]
  | .t is => is
def clr (env : Env) : List Nat → Env
  | [] => env
  | i :: is => clr (env.set i .un) is

/-- a value that may be kept: not a borrowed one -/
def keep : Rs → Rs
  | .ok .bo _ => .bad
  | r => r

/-- what the evaluator asks of the program -/
structure EC where
  call : Nat → List PV → Rs
  par : Nat → Option Nat      -- own exception classes: the class above
  nc : Nat                    -- how many there are

def subc (par : Nat → Option Nat) : Nat → Nat → Nat → Bool
  | 0, _, _ => false
  | n + 1, c, d => c == d || (match par c with | some e => subc par n e d | none => false)
def isX (par : Nat → Option Nat) (c : Nat) : PV → Option Bool
  | .cls d => some (subc par 8 c d)
  | _ => none

def Rs.bind : Rs → (Md → PV → Rs) → Rs
  | .ok m v, k => k m v
  | .ex x, _ => .ex x
  | .bad, _ => .bad
/-- by a truth value: yes, no -/
def Rs.cond : Rs → Rs → Rs → Rs
  | .ok _ (.bl true), y, _ => y
  | .ok _ (.bl false), _, n => n
  | .ok _ _, _, _ => .bad
  | .ex x, _, _ => .ex x
  | .bad, _, _ => .bad
def Rl.bind : Rl → (Bool → List PV → Rs) → Rs
  | .ok n vs, k => k n vs
  | .ex x, _ => .ex x
  | .bad, _ => .bad
def Rs.cons : Rs → Rl → Rl
  | .ok m v, .ok n vs => .ok (n && decide (m ≠ .bo)) (v :: vs)
  | .ok _ _, .ex x => .ex x
  | .ok _ _, .bad => .bad
  | .ex x, _ => .ex x
  | .bad, _ => .bad
/-- a value that is kept -/
def Rs.kp : Rs → (PV → Rs) → Rs
  | .ok .bo _, _ => .bad
  | .ok _ v, k => k v
  | .ex x, _ => .ex x
  | .bad, _ => .bad
/-- no exception -/
def Rs.nox : Rs → Rs
  | .ex _ => .bad
  | r => r
def ofO : Option Rs → Rs
  | some r => r
  | none => .bad
/-- as a test -/
def tru : Rs → Rs
  | .ok _ v => ofB (tvP v)
  | .ex x => .ex x
  | .bad => .bad
/-- the turns of a comprehension -/
def turns (f : PV → Rs) (t : PV → Rs) : List PV → List PV → Rs
  | [], acc => .ok .fr (.lst acc)
  | x :: xs, acc => (t x).cond ((f x).kp fun v => turns f t xs (acc ++ [v])) (turns f t xs acc)
/-- of two clauses: each outer turn adds to the list -/
def turns2 (f : PV → List PV → Rs) (t : PV → Rs) : List PV → List PV → Rs
  | [], acc => .ok .fr (.lst acc)
  | x :: xs, acc => (t x).cond ((f x acc).bind fun _ v => match v with
      | .lst acc' => turns2 f t xs acc'
      | _ => .bad) (turns2 f t xs acc)
def turnsD (d : Bool) (fk f : PV → Rs) (t : PV → Rs) : List PV → List PV → List PV → Rs
  | [], ks, vs => .ok .fr (.dct d ks vs)
  | x :: xs, ks, vs => (t x).cond ((fk x).bind fun _ k => if keyOk d k then (f x).kp fun v => turnsD d fk f t xs (putKs k ks) (putVs k v ks vs) else .bad) (turnsD d fk f t xs ks vs)
/-- what stands behind an expression: its value, or (t) its truth -/
def fin : Bool → Rs → Rs
  | false, r => r
  | true, r => tru r
def ofSl (t : Bool) : Option Sl → Rs
  | some (.sh v) => fin t (.ok .sh v)
  | some (.ow v) => fin t (.ok .bo v)
  | _ => .bad
def strK : PV → Rs → Rs
  | .str _, r => r
  | _, _ => .bad
def cmpR (o : CO) (x y : PV) : Rs := ofB (cmpP o x y)
def chnR (o : CO) (x y : PV) (r : Rs) : Rs :=
  match cmpP o x y with
  | some true => r
  | some false => .ok .sh (.bl false)
  | none => .bad
/-- is it a zero -/
def isZ : Option Sl → Bool
  | some (.sh (.int i)) => i == 0
  | _ => false
def intK (k : Option Int → Rs) : PV → Rs
  | .int i => k (some i)
  | _ => .bad
def negP : PV → Rs
  | .int i => .ok .sh (.int (-i))
  | _ => .bad
def tupR : Bool → List PV → Rs
  | true, vs => if vs.length ≤ 100000 then .ok .sh (.tup vs) else .bad
  | false, _ => .bad
def lstR : Bool → List PV → Rs
  | true, vs => if vs.length ≤ 100000 then .ok .fr (.lst vs) else .bad
  | false, _ => .bad
def calR (X : EC) (f : Nat) : Bool → List PV → Rs
  | true, vs => X.call f vs
  | false, _ => .bad
def fnOf : Option Sl → Option Nat
  | some (.sh (.fn f)) => some f
  | _ => none
def xflR (t : Bool) (c : Nat) : Option Sl → Rs
  | some (.xc d (some v)) => if c = d then fin t (.ok .sh v) else .bad
  | _ => .bad
def xisR (X : EC) (cs : List Nat) : Option Sl → Rs
  | some (.xc d _) => if d < X.nc && cs.all fun c => decide (c < X.nc) then .ok .sh (.bl (cs.any fun c => subc X.par 8 d c)) else .bad
  | _ => .bad

mutual
/-- an expression's value (false), its truth (true) -/
def ev (X : EC) : Bool → IR → Env → Rs
  | t, .loc i, env => ofSl t env[i]?
  | t, .cst v, _ => fin t (.ok .sh v)
  | t, .neg a, env => fin t ((ev X false a env).bind fun _ x => negP x)
  | false, .nt a, env => (tru (ev X false a env)).cond (.ok .sh (.bl false)) (.ok .sh (.bl true))
  | true, .nt a, env => (ev X true a env).cond (.ok .sh (.bl false)) (.ok .sh (.bl true))
  | t, .bin o a b, env => fin t ((ev X false a env).bind fun _ x => (ev X false b env).bind fun _ y => binP o x y)
  | _, .cmp o a b, env => (ev X false a env).bind fun _ x => (ev X false b env).bind fun _ y => cmpR o x y
  | _, .chn o o' a b c, env => (ev X false a env).bind fun _ x => (ev X false b env).bind fun _ y => chnR o x y ((ev X false c env).bind fun _ z => cmpR o' y z)
  | t, .and a b, env => (ev X t a env).cond (ev X t b env) (.ok .sh (.bl false))
  | t, .or a b, env => (ev X t a env).cond (.ok .sh (.bl true)) (ev X t b env)
  | t, .ite c a b, env => (ev X true c env).cond (ev X t a env) (ev X t b env)
  | t, .tup es, env => fin t ((evs X es env).bind tupR)
  | t, .lst es, env => fin t ((evs X es env).bind lstR)
  | t, .emp k, _ => fin t (.ok .fr (.dct k [] []))
  | t, .sub a i, env => fin t ((ev X false a env).bind fun _ x => (ev X false i env).bind fun _ y => ofV .sh (subP x y))
  | t, .slc a lo hi, env => fin t ((ev X false a env).bind fun _ x => evP X lo env fun l => evP X hi env fun h => slcP x l h)
  | t, .rvs a, env => fin t ((ev X false a env).bind fun _ x => rvsP x)
  | t, .call f es, env => fin t ((evs X es env).bind (calR X f))
  | t, .calv i es, env => match fnOf env[i]? with
    | some f => fin t ((evs X es env).bind (calR X f))
    | none => .bad
  | t, .blt b es, env => fin t ((evs X es env).bind fun _ vs => bltP b vs)
  | t, .mth m o es, env => fin t ((ev X false o env).bind fun _ v => strK v ((evs X es env).bind fun _ vs => mthP m v vs))
  | t, .xfl i c, env => xflR t c env[i]?
  | _, .xis i cs, env => xisR X cs env[i]?
  | t, .lc tg k src cond elt, env => fin t ((evs X src env).bind fun _ vs => ofO ((itm k vs).map fun xs => turns
        (fun x => (ofO ((tgB tg x (clr env (slots tg))).map fun e => ev X false elt e)).nox)
        (fun x => (ofO ((tgB tg x (clr env (slots tg))).map fun e => evC X cond e)).nox) xs []))
  | t, .lcx tg k src cond elt, env => fin t ((evs X src env).bind fun _ vs => ofO ((itm k vs).map fun xs => turns
        (fun x => ofO ((tgB tg x (clr env (slots tg))).map fun e => ev X false elt e))
        (fun x => ofO ((tgB tg x (clr env (slots tg))).map fun e => evC X cond e)) xs []))
  | t, .altZ i a b, env => if isZ env[i]? then ev X t a env else ev X t b env
  | t, .lc2 tg k src cond tg2 k2 src2 cond2 elt, env => fin t ((evs X src env).bind fun _ vs => ofO ((itm k vs).map fun xs => turns2
        (fun x acc => (ofO ((tgB tg x (clr (clr env (slots tg)) (slots tg2))).map fun e => (evs X src2 e).bind fun _ vs2 => ofO ((itm k2 vs2).map fun ys => turns
                (fun y => ofO ((tgB tg2 y e).map fun e2 => ev X false elt e2))
                (fun y => ofO ((tgB tg2 y e).map fun e2 => evC X cond2 e2)) ys acc))).nox)
        (fun x => (ofO ((tgB tg x (clr (clr env (slots tg)) (slots tg2))).map fun e => evC X cond e)).nox) xs []))
  | t, .dc dt tg k src cond key elt, env => fin t ((evs X src env).bind fun _ vs => ofO ((itm k vs).map fun xs => turnsD dt
        (fun x => (ofO ((tgB tg x (clr env (slots tg))).map fun e => ev X false key e)).nox)
        (fun x => (ofO ((tgB tg x (clr env (slots tg))).map fun e => ev X false elt e)).nox)
        (fun x => (ofO ((tgB tg x (clr env (slots tg))).map fun e => evC X cond e)).nox) xs [] []))
def evs (X : EC) : IRs → Env → Rl
  | .nil, _ => .ok true []
  | .cons a as, env => (ev X false a env).cons (evs X as env)
/-- a slice's part -/
def evP (X : EC) : IRs → Env → (Option Int → Rs) → Rs
  | .nil, _, k => k none
  | .cons a .nil, env, k => (ev X false a env).bind fun _ x => intK k x
  | .cons _ (.cons _ _), _, _ => .bad
/-- a clause's tests -/
def evC (X : EC) : IRs → Env → Rs
  | .nil, _ => .ok .sh (.bl true)
  | .cons a .nil, env => ev X true a env
  | .cons _ (.cons _ _), _ => .bad
end

/-! ### statements -/
mutual
inductive Sm where
  | pass | brk | cnt | retN
  | set (i : Nat) (e : IR)
  | unp (is : List Nat) (e : IR)
  | par (i j : Nat) (a b : IR)
  | app (i : Nat) (e : IR)
  | ext (i : Nat) (e : IR)
  | put (i : Nat) (k v : IR)
  | swp (i : Nat) (a b : IR) (c d : IR)
  | aug (i : Nat) (o : BO) (e : IR)
  | exp (e : IR)
  | ifs (c : IR) (a b : Ss)
  | whl (n : Nat) (c : IR) (b : Ss)
  | for (tg : Tg) (k : IK) (src : IRs) (b : Ss) (cl : List Nat)
  | ret (e : IR)
  | rtl (i : Nat)
  | rai (c : Nat) (e : IRs)
  | try (b : Ss) (c : Nat) (i : Option Nat) (s : Ss)
  | mat (e : IR) (cs : Cs)
  | frz (is : List Nat) (s : Sm)
inductive Ss where
  | nil | cons (s : Sm) (r : Ss)
inductive Cs where
  | nil | cons (p : Pt) (b : Ss) (r : Cs)
inductive Pt where
  | any | str (s : List Nat) | strs (l : List (List Nat))
  | seq (ps : List (Option (List Nat) × Option Nat)) (star : Option Nat)
end

inductive Fl where
  | nx (e : Env) | bk (e : Env) | ct (e : Env)
  | rt (m : Md) (v : PV)
  | ex (x : Ex) (e : Env)
  | bad
deriving Inhabited

def Rs.fl : Rs → Env → (Md → PV → Fl) → Fl
  | .ok m v, _, k => k m v
  | .ex x, e, _ => .ex x e
  | .bad, _, _ => .bad
/-- not a borrowed one -/
def Rs.fk : Rs → Env → (Md → PV → Fl) → Fl
  | .ok .bo _, _, _ => .bad
  | .ok m v, _, k => k m v
  | .ex x, e, _ => .ex x e
  | .bad, _, _ => .bad
def Rl.fl : Rl → Env → (Bool → List PV → Fl) → Fl
  | .ok n v, _, k => k n v
  | .ex x, e, _ => .ex x e
  | .bad, _, _ => .bad
def Rs.fc : Rs → Env → Fl → Fl → Fl
  | .ok _ (.bl true), _, y, _ => y
  | .ok _ (.bl false), _, _, n => n
  | .ok _ _, _, _, _ => .bad
  | .ex x, e, _, _ => .ex x e
  | .bad, _, _, _ => .bad
def Fl.seq : Fl → (Env → Fl) → Fl
  | .nx e, k => k e
  | r, _ => r
def ofF : Option Fl → Fl
  | some r => r
  | none => .bad

def toSl : Md → PV → Sl
  | .fr, v => .ow v
  | _, v => .sh v
/-- a slot's value is frozen -/
def frz1 (env : Env) (i : Nat) : Env :=
  match env[i]? with
  | some (.ow v) => env.set i (.sh v)
  | _ => env
def frzL (env : Env) (is : List Nat) : Env := is.foldl frz1 env

/-- a turn's end -/
def Fl.turn (cl : List Nat) : Fl → (Env → Fl) → Fl
  | .nx e, k => k (clr e cl)
  | .ct e, k => k (clr e cl)
  | .bk e, _ => .nx (clr e cl)
  | .rt m v, _ => .rt m v
  | .ex x e, _ => .ex x e
  | .bad, _ => .bad
/-- a for: its turns -/
def forT (f : PV → Env → Fl) (cl : List Nat) : List PV → Env → Fl
  | [], env => .nx env
  | x :: xs, env => (f x env).turn cl (forT f cl xs)
def whlT (c : Env → Rs) (f : Env → Fl) : Nat → Env → Fl
  | 0, _ => .bad
  | n + 1, env => (c env).fc env ((f env).turn [] (whlT c f n)) (.nx env)
/-- the items against the pattern's places -/
def matS : List (Option (List Nat) × Option Nat) → List PV → Env → Option (Option (Env × List PV))
  | [], vs, env => some (some (env, vs))
  | (none, none) :: ps, _ :: vs, env => matS ps vs env
  | (none, some i) :: ps, v :: vs, env => matS ps vs (env.set i (.sh v))
  | (some s, _) :: ps, v :: vs, env => match v with
    | .str t => if s == t then matS ps vs env else some none
    | _ => none
  | _ :: _, [], _ => some none

def lstOf : PV → Option (List PV)
  | .lst xs => some xs
  | _ => none
/-- does the value match: nothing known, no, yes -/
def matP (p : Pt) (v : PV) (env : Env) : Option (Option Env) :=
  match p with
  | .any => some (some env)
  | .str s => match v with
    | .str t => some (if s == t then some env else none)
    | _ => none
  | .strs l => match v with
    | .str t => some (if l.contains t then some env else none)
    | _ => none
  | .seq ps star => match lstOf v with
    | none => none
    | some vs => match star with
      | none => if vs.length = ps.length then match matS ps vs env with
        | none => none
        | some none => some none
        | some (some (e, _)) => some (some e)
        else some none
      | some i => if ps.length ≤ vs.length then match matS ps vs env with
        | none => none
        | some none => some none
        | some (some (e, r)) => some (some (e.set i (.ow (.lst r))))
        else some none

def putP (c k v : PV) : Option PV :=
  match c with
  | .lst xs => match k with
    | .int i => (ixI xs.length i).map fun j => .lst (xs.set j v)
    | _ => none
  | .dct t ks vs => if keyOk t k && decide (ks.length < LL) then some (.dct t (putKs k ks) (putVs k v ks vs)) else none
  | _ => none
def owOf : Option Sl → Option PV
  | some (.ow v) => some v
  | _ => none
def shOf : Option Sl → Option PV
  | some (.sh v) => some v
  | _ => none
def appP : Option PV → PV → Option PV
  | some (.lst xs), v => if xs.length < LL then some (.lst (xs ++ [v])) else none
  | _, _ => none
def extP : Option PV → PV → Option PV
  | some (.lst xs), .lst ys => if xs.length + ys.length ≤ LL then some (.lst (xs ++ ys)) else none
  | _, _ => none
def nobF : Bool → Fl → Fl
  | true, r => r
  | false, _ => .bad
/-- it is a list -/
def lstK : Option PV → Fl → Fl
  | some (.lst _), r => r
  | _, _ => .bad
def ownK : Option PV → (PV → Fl) → Fl
  | some c, k => k c
  | none, _ => .bad
def swpV : Bool → List PV → (PV → PV → Fl) → Fl
  | true, [v, w], k => k v w
  | _, _, _ => .bad
/-- an owned slot's new content -/
def owS (env : Env) (i : Nat) : Option PV → Fl
  | some c => .nx (env.set i (.ow c))
  | none => .bad
def unpR (env : Env) (is : List Nat) (v : PV) : Fl :=
  match tgB (.t is) v env with
  | some e => .nx e
  | none => .bad
def parR (env : Env) (i j : Nat) : Bool → List PV → Fl
  | true, [v, w] => .nx ((env.set i (.sh v)).set j (.sh w))
  | _, _ => .bad
def raiR (env : Env) (c : Nat) : Bool → List PV → Fl
  | true, [v] => .ex ⟨c, some v⟩ env
  | _, _ => .bad
def augR (env : Env) (i : Nat) : Rs → Fl
  | .ok .sh v => .nx (env.set i (.sh v))
  | _ => .bad
def rtlR : Option Sl → Fl
  | some (.sh v) => .rt .sh v
  | some (.ow v) => .rt .fr v
  | _ => .bad
/-- no exception is held any more -/
def unx1 : Sl → Sl
  | .xc _ _ => .un
  | s => s
def unx (e : Env) : Env := e.map unx1
def Fl.tryI (i : Nat) : Fl → Fl
  | .nx e => .nx ((unx e).set i .un)
  | .bk e => .bk ((unx e).set i .un)
  | .ct e => .ct ((unx e).set i .un)
  | .rt m v => .rt m v
  | .ex _ _ => .bad
  | .bad => .bad
def Fl.tryN : Fl → Fl
  | .nx e => .nx (unx e)
  | .bk e => .bk (unx e)
  | .ct e => .ct (unx e)
  | .rt m v => .rt m v
  | .ex _ _ => .bad
  | .bad => .bad
/-- a try: what the clause of the class c makes of it -/
def Fl.hand (r : Fl) (X : EC) (c : Nat) (k : Ex → Env → Fl) : Fl :=
  match r with
  | .ex x e => if x.c < X.nc then (if subc X.par 8 x.c c then k x e else .ex x e) else .bad
  | r => r

mutual
def exec (X : EC) : Sm → Env → Fl
  | .pass, env => .nx env
  | .brk, env => .bk env
  | .cnt, env => .ct env
  | .retN, _ => .rt .sh .non
  | .set i e, env => (ev X false e env).fk env fun m v => .nx (env.set i (toSl m v))
  | .unp is e, env => (ev X false e env).fk env fun _ v => unpR env is v
  | .par i j a b, env => (evs X (.cons a (.cons b .nil)) env).fl env (parR env i j)
  | .app i e, env => lstK (owOf env[i]?) ((ev X false e env).fk env fun _ v => owS env i (appP (owOf env[i]?) v))
  | .ext i e, env => lstK (owOf env[i]?) ((ev X false e env).fk env fun _ v => owS env i (extP (owOf env[i]?) v))
  | .put i k v, env => ownK (owOf env[i]?) fun c => (ev X false v env).fk env fun _ y => (ev X false k env).fk env fun _ z => owS env i (putP c z y)
  | .swp i a b c d, env => ownK (owOf env[i]?) fun c0 => (evs X (.cons c (.cons d .nil)) env).fl env fun n vs => swpV n vs fun v w =>
      (ev X false a env).fk env fun _ ka => ownK (putP c0 ka v) fun c1 => (ev X false b (env.set i (.ow c1))).fk (env.set i (.ow c1)) fun _ kb => owS (env.set i (.ow c1)) i (putP c1 kb w)
  | .aug i o e, env => match shOf env[i]? with
    | some x => (ev X false e env).fl env fun _ y => augR env i (binP o x y)
    | none => .bad
  | .exp e, env => (ev X false e env).fl env fun _ _ => .nx env
  | .ifs c a b, env => (ev X true c env).fc env (execs X a env) (execs X b env)
  | .whl n c b, env => whlT (fun e => ev X true c e) (fun e => execs X b e) n env
  | .for tg k src b cl, env => (evs X src env).fl env fun n vs => nobF n (ofF ((itm k vs).map fun xs => forT (fun x e => ofF ((tgB tg x e).map fun e' => execs X b e')) cl xs env))
  | .ret e, env => (ev X false e env).fk env fun m v => .rt m v
  | .rtl i, env => rtlR env[i]?
  | .rai c es, env => (evs X es env).fl env (raiR env c)
  | .try b c (some i) s, env => (execs X b env).hand X c fun x e => (execs X s (e.set i (.xc x.c x.f))).tryI i
  | .try b c none s, env => (execs X b env).hand X c fun _ e => (execs X s e).tryN
  | .mat e cs, env => (ev X false e env).fk env fun _ v => execM X v cs env
  | .frz is s, env => exec X s (frzL env is)
def execs (X : EC) : Ss → Env → Fl
  | .nil, env => .nx env
  | .cons s r, env => (exec X s env).seq (execs X r)
def execM (X : EC) (v : PV) : Cs → Env → Fl
  | .nil, env => .nx env
  | .cons p b r, env => match matP p v env with
    | none => .bad
    | some (some e) => execs X b e
    | some none => execM X v r env
end

/-! ### the program -/
structure Fd where
  n : Nat
  body : Ss
structure Pg where
  fds : List Fd
  ks : List Nat        -- the number of parameters
  par : Nat → Option Nat
  nc : Nat

def ofFl : Fl → Rs
  | .nx _ => .ok .sh .non
  | .rt m v => .ok m v
  | .ex x _ => .ex x
  | _ => .bad
def runF (X : EC) (fd : Fd) (k : Nat) (vs : List PV) : Rs :=
  if vs.length = k then ofFl (execs X fd.body (vs.map Sl.sh ++ List.replicate (fd.n - k) Sl.un)) else .bad
/-- the d-th approximation of the program's defs -/
def callF (P : Pg) : Nat → Nat → List PV → Rs
  | 0, _, _ => .bad
  | d + 1, f, vs => match P.fds[f]? with
    | some fd => runF ⟨callF P d, P.par, P.nc⟩ fd (P.ks.getD f 0) vs
    | none => .bad
end EV
set_option Elab.async false
set_option linter.all false
set_option maxRecDepth 100000
set_option maxHeartbeats 1000000
/-! EVb: how values of the layer stand for trees; heaps that grow; slots. -/
namespace EV
open PySem PySem.Spec PyProof.Rows L2

/-- the built-in types by number -/
def tyN : Nat → String
  | 0 => "int" | 1 => "str" | 2 => "list" | 3 => "tuple" | 4 => "bool" | _ => "int"
/-- where the program's defs and classes stand -/
structure Gh where
  K : PySem.W.Frag
  fa : Nat → Addr
  ca : Nat → Addr
  xn : Nat → Str

/-- a dict, which may be locked while it is walked -/
def Lk : HO → Prop
  | .dK _ => True
  | .dT _ => True
  | _ => False
def FLe (F F' : Hp) : Prop := ∀ a u, F a = some u → F' a = some u ∨ (Lk u ∧ ∃ o, F' a = some (.frz o u))
theorem FLe.refl (F : Hp) : FLe F F := fun _ _ h => .inl h
theorem FLe.trans {F F1 F2 : Hp} (a : FLe F F1) (b : FLe F1 F2) : FLe F F2 := fun x u h => by
  rcases a x u h with h1 | ⟨l, o, h1⟩
  · exact b x u h1
  · rcases b x _ h1 with h2 | ⟨l2, _⟩
    · exact .inr ⟨l, o, h2⟩
    · exact l2.elim
def Ext (H H' : Hp) : Prop := ∀ a o, H a = some o → H' a = some o
theorem Ext.refl (H : Hp) : Ext H H := fun _ _ h => h
theorem Ext.trans {H H1 H2 : Hp} (a : Ext H H1) (b : Ext H1 H2) : Ext H H2 := fun x o h => b x o (a x o h)
theorem Ext.fle {H H' : Hp} (a : Ext H H') : FLe H H' := fun x u h => .inl (a x u h)
theorem Ext.new {H : Hp} {p : Addr} {o : HO} (h : H p = none) : Ext H (upd H p o) := fun a u e => by
  rw [upd_ne (ne_of_none e h)]
  exact e
theorem Ext.back {H H' : Hp} {p : Addr} (e : Ext H H') (h : H' p = none) : H p = none := by
  cases h1 : H p with
  | none => rfl
  | some o => rw [e p o h1] at h; cases h

def KT (K : PySem.W.Frag) (a : Addr) (xs : List V) : Prop :=
  ∃ (o : Obj) (its : Array Value) (n : Nat), K.lookup a = some o ∧ o.cls = .type "tuple" ∧ o.data = .seq its n ∧ its.size ≤ sizeLine ∧ Vals xs its.toList

/-- a list of the module's own -/
def KL (K : PySem.W.Frag) (a : Addr) (xs : List V) : Prop :=
  ∃ (o : Obj) (its : Array Value) (n : Nat), K.lookup a = some o ∧ o.cls = .type "list" ∧ o.dict = none ∧ o.data = .seq its n ∧ its.size ≤ sizeLine ∧ Vals xs its.toList
def kP : Key → PV → Prop
  | .inl i, .int j => i = j
  | .inr z, .str s => z = ⟨s.toArray⟩ ∧ s.length ≤ SL
  | _, _ => False
def kPs : List Key → List PV → Prop
  | [], [] => True
  | k :: ks, x :: xs => kP k x ∧ kPs ks xs
  | _, _ => False

mutual
/-- v stands for the tree, over the frozen heap F -/
inductive RepV (g : Gh) (F : Hp) : V → PV → Prop
  | non : RepV g F .non .non
  | bl (b : Bool) : RepV g F (.bl b) (.bl b)
  | int (i : Int) : RepV g F (.int i) (.int i)
  | str (s : List Nat) (h : s.length ≤ SL) : RepV g F (.str ⟨s.toArray⟩) (.str s)
  | lst {a : Addr} {vs : List V} {xs : List PV} : Rd F a (.lst vs) → RepVs g F vs xs → RepV g F (.ref a) (.lst xs)
  | tup {a : Addr} {vs : List V} {xs : List PV} : F a = some (.tup vs) → vs.length ≤ sizeLine → RepVs g F vs xs → RepV g F (.ref a) (.tup xs)
  | ctp {a : Addr} {vs : List V} {xs : List PV} : KT g.K a vs → RepVs g F vs xs → RepV g F (.ref a) (.ctp xs)
  | ckl {a : Addr} {vs : List V} {ks xs : List PV} : KL g.K a vs → RepVs g F vs xs → RepV g F (.ref a) (.cdt ks xs)
  | dK {a : Addr} {kvs : List (Key × V)} {ks vs : List PV} : Rd F a (.dK kvs) → RepK g F kvs ks vs → RepV g F (.ref a) (.dct false ks vs)
  | dT {a : Addr} {kvs : List (List Key × V)} {ks vs : List PV} : Rd F a (.dT kvs) → RepT g F kvs ks vs → RepV g F (.ref a) (.dct true ks vs)
  | fn (f : Nat) : RepV g F (.ref (g.fa f)) (.fn f)
  | cls (c : Nat) : RepV g F (.ref (g.ca c)) (.cls c)
  | ty (t : Nat) : RepV g F (.ty (tyN t)) (.ty t)
inductive RepVs (g : Gh) (F : Hp) : List V → List PV → Prop
  | nil : RepVs g F [] []
  | cons {v : V} {vs : List V} {x : PV} {xs : List PV} : RepV g F v x → RepVs g F vs xs → RepVs g F (v :: vs) (x :: xs)
inductive RepK (g : Gh) (F : Hp) : List (Key × V) → List PV → List PV → Prop
  | nil : RepK g F [] [] []
  | cons {k : Key} {v : V} {kvs : List (Key × V)} {p x : PV} {ps xs : List PV} : kP k p → RepV g F v x → RepK g F kvs ps xs → RepK g F ((k, v) :: kvs) (p :: ps) (x :: xs)
inductive RepT (g : Gh) (F : Hp) : List (List Key × V) → List PV → List PV → Prop
  | nil : RepT g F [] [] []
  | cons {k : List Key} {v : V} {kvs : List (List Key × V)} {p : List PV} {x : PV} {ps xs : List PV} : kPs k p → RepV g F v x → RepT g F kvs ps xs → RepT g F ((k, v) :: kvs) (.tup p :: ps) (x :: xs)
end

theorem rd_mono {F F' : Hp} {a : Addr} {u : HO} (e : FLe F F') (h : Rd F a u) : Rd F' a u := by
  rcases h with h | ⟨o, h⟩
  · rcases e a u h with h1 | ⟨_, o, h1⟩
    · exact .inl h1
    · exact .inr ⟨o, h1⟩
  · rcases e a _ h with h1 | ⟨l, _⟩
    · exact .inr ⟨o, h1⟩
    · exact l.elim
theorem tup_mono {F F' : Hp} {a : Addr} {vs : List V} (e : FLe F F') (h : F a = some (.tup vs)) : F' a = some (.tup vs) := by
  rcases e a _ h with h1 | ⟨l, _⟩
  · exact h1
  · exact l.elim
mutual
theorem RepV.mono {g : Gh} {F F' : Hp} (e : FLe F F') : ∀ {v : V} {x : PV}, RepV g F v x → RepV g F' v x
  | _, _, .non => .non
  | _, _, .bl b => .bl b
  | _, _, .int i => .int i
  | _, _, .str s h => .str s h
  | _, _, .lst h r => .lst (rd_mono e h) (RepVs.mono e r)
  | _, _, .tup h z r => .tup (tup_mono e h) z (RepVs.mono e r)
  | _, _, .ctp h r => .ctp h (RepVs.mono e r)
  | _, _, .ckl h r => .ckl h (RepVs.mono e r)
  | _, _, .dK h r => .dK (rd_mono e h) (RepK.mono e r)
  | _, _, .dT h r => .dT (rd_mono e h) (RepT.mono e r)
  | _, _, .fn f => .fn f
  | _, _, .cls c => .cls c
  | _, _, .ty t => .ty t
theorem RepVs.mono {g : Gh} {F F' : Hp} (e : FLe F F') : ∀ {v : List V} {x : List PV}, RepVs g F v x → RepVs g F' v x
  | _, _, .nil => .nil
  | _, _, .cons h r => .cons (RepV.mono e h) (RepVs.mono e r)
theorem RepK.mono {g : Gh} {F F' : Hp} (e : FLe F F') : ∀ {k : List (Key × V)} {x y : List PV}, RepK g F k x y → RepK g F' k x y
  | _, _, _, .nil => .nil
  | _, _, _, .cons h r t => .cons h (RepV.mono e r) (RepK.mono e t)
theorem RepT.mono {g : Gh} {F F' : Hp} (e : FLe F F') : ∀ {k : List (List Key × V)} {x y : List PV}, RepT g F k x y → RepT g F' k x y
  | _, _, _, .nil => .nil
  | _, _, _, .cons h r t => .cons h (RepV.mono e r) (RepT.mono e t)
end
theorem RepVs.length {g : Gh} {F : Hp} : ∀ {v : List V} {x : List PV}, RepVs g F v x → v.length = x.length
  | _, _, .nil => rfl
  | _, _, .cons _ r => congrArg (· + 1) (RepVs.length r)
theorem RepVs.append {g : Gh} {F : Hp} : ∀ {v w : List V} {x y : List PV}, RepVs g F v x → RepVs g F w y → RepVs g F (v ++ w) (x ++ y)
  | _, _, _, _, .nil, s => s
  | _, _, _, _, .cons h r, s => .cons h (RepVs.append r s)
theorem RepVs.get {g : Gh} {F : Hp} : ∀ {v : List V} {x : List PV} {i : Nat} {p : PV}, RepVs g F v x → x[i]? = some p → ∃ u, v[i]? = some u ∧ RepV g F u p
  | _, _, _, _, .nil, h => by simp at h
  | _, _, 0, _, .cons (v := u) h _, e => ⟨u, rfl, by simp at e; exact e ▸ h⟩
  | _, _, i + 1, _, .cons _ r, e => by
    obtain ⟨u, h1, h2⟩ := RepVs.get (i := i) r (by simpa using e)
    exact ⟨u, by simpa using h1, h2⟩
theorem RepVs.getV {g : Gh} {F : Hp} : ∀ {v : List V} {x : List PV} {i : Nat} {u : V}, RepVs g F v x → v[i]? = some u → ∃ p, x[i]? = some p ∧ RepV g F u p
  | _, _, _, _, .nil, h => by simp at h
  | _, _, 0, _, .cons (x := p) h _, e => ⟨p, rfl, by simp at e; exact e ▸ h⟩
  | _, _, i + 1, _, .cons _ r, e => by
    obtain ⟨u, h1, h2⟩ := RepVs.getV (i := i) r (by simpa using e)
    exact ⟨u, by simpa using h1, h2⟩
theorem RepVs.take {g : Gh} {F : Hp} : ∀ {v : List V} {x : List PV} (n : Nat), RepVs g F v x → RepVs g F (v.take n) (x.take n)
  | _, _, 0, _ => .nil
  | _, _, _ + 1, .nil => .nil
  | _, _, n + 1, .cons h r => .cons h (RepVs.take n r)
theorem RepVs.drop {g : Gh} {F : Hp} : ∀ {v : List V} {x : List PV} (n : Nat), RepVs g F v x → RepVs g F (v.drop n) (x.drop n)
  | _, _, 0, r => r
  | _, _, _ + 1, .nil => .nil
  | _, _, n + 1, .cons _ r => RepVs.drop n r
theorem RepVs.rep {g : Gh} {F : Hp} {v : List V} {x : List PV} (r : RepVs g F v x) : ∀ n : Nat, RepVs g F (List.replicate n v).flatten (List.replicate n x).flatten
  | 0 => .nil
  | n + 1 => by
    rw [List.replicate_succ, List.replicate_succ, List.flatten_cons, List.flatten_cons]
    exact r.append (RepVs.rep r n)
theorem RepVs.set {g : Gh} {F : Hp} {u : V} {p : PV} (h : RepV g F u p) : ∀ {v : List V} {x : List PV} (n : Nat), RepVs g F v x → RepVs g F (v.set n u) (x.set n p)
  | _, _, _, .nil => .nil
  | _, _, 0, .cons _ r => .cons h r
  | _, _, n + 1, .cons q r => .cons q (RepVs.set h n r)
theorem RepVs.strs {g : Gh} {F : Hp} : ∀ {v : List V} {x : List PV} {ys : List (List Nat)}, RepVs g F v x → strsOf x = some ys → v = (ys.map fun s => (⟨s.toArray⟩ : Str)).map V.str
  | _, _, _, .nil, h => by
    simp [strsOf] at h
    subst h
    rfl
  | _, _, ys, .cons (x := .str s) (.str _ _) r, h => by
    simp only [strsOf, Option.map_eq_some_iff] at h
    obtain ⟨zs, h1, rfl⟩ := h
    rw [RepVs.strs r h1]
    rfl
  | _, _, _, .cons (.non) _, h => by simp [strsOf] at h
  | _, _, _, .cons (.bl _) _, h => by simp [strsOf] at h
  | _, _, _, .cons (.int _) _, h => by simp [strsOf] at h
  | _, _, _, .cons (.lst _ _) _, h => by simp [strsOf] at h
  | _, _, _, .cons (.tup _ _ _) _, h => by simp [strsOf] at h
  | _, _, _, .cons (.ctp _ _) _, h => by simp [strsOf] at h
  | _, _, _, .cons (.ckl _ _) _, h => by simp [strsOf] at h
  | _, _, _, .cons (.dK _ _) _, h => by simp [strsOf] at h
  | _, _, _, .cons (.dT _ _) _, h => by simp [strsOf] at h
  | _, _, _, .cons (.fn _) _, h => by simp [strsOf] at h
  | _, _, _, .cons (.cls _) _, h => by simp [strsOf] at h
  | _, _, _, .cons (.ty _) _, h => by simp [strsOf] at h

/-- what an owned object holds -/
def OwnC (g : Gh) (F : Hp) (o : Option HO) : PV → Prop
  | .lst xs => ∃ vs, o = some (.lst vs) ∧ RepVs g F vs xs
  | .dct false ks vs => ∃ kvs, o = some (.dK kvs) ∧ RepK g F kvs ks vs
  | .dct true ks vs => ∃ kvs, o = some (.dT kvs) ∧ RepT g F kvs ks vs
  | _ => False
theorem OwnC.mono {g : Gh} {F F' : Hp} (e : FLe F F') {o : Option HO} : ∀ {x : PV}, OwnC g F o x → OwnC g F' o x
  | .lst _, ⟨vs, h, r⟩ => ⟨vs, h, r.mono e⟩
  | .dct false _ _, ⟨vs, h, r⟩ => ⟨vs, h, r.mono e⟩
  | .dct true _ _, ⟨vs, h, r⟩ => ⟨vs, h, r.mono e⟩
  | .non, h => h.elim
  | .bl _, h => h.elim
  | .int _, h => h.elim
  | .str _, h => h.elim
  | .tup _, h => h.elim
  | .ctp _, h => h.elim
  | .cdt _ _, h => h.elim
  | .fn _, h => h.elim
  | .cls _, h => h.elim
  | .ty _, h => h.elim
  | .obj _ _ _, h => h.elim
theorem OwnC.some {g : Gh} {F : Hp} {o : Option HO} : ∀ {x : PV}, OwnC g F o x → ∃ u, o = Option.some u
  | .lst _, ⟨_, h, _⟩ => ⟨_, h⟩
  | .dct false _ _, ⟨_, h, _⟩ => ⟨_, h⟩
  | .dct true _ _, ⟨_, h, _⟩ => ⟨_, h⟩
  | .non, h => h.elim
  | .bl _, h => h.elim
  | .int _, h => h.elim
  | .str _, h => h.elim
  | .tup _, h => h.elim
  | .ctp _, h => h.elim
  | .cdt _ _, h => h.elim
  | .fn _, h => h.elim
  | .cls _, h => h.elim
  | .ty _, h => h.elim
  | .obj _ _ _, h => h.elim
/-- read only for now: shared, or owned by a slot -/
def RepB (g : Gh) (F H : Hp) (v : V) (x : PV) : Prop := RepV g F v x ∨ ∃ p, v = .ref p ∧ OwnC g F (H p) x
def VRep (g : Gh) (m : Md) (H F' H' : Hp) (v : V) (x : PV) : Prop :=
  match m with
  | .sh => RepV g F' v x
  | .bo => RepB g F' H' v x
  | .fr => ∃ p, v = .ref p ∧ H p = none ∧ F' p = none ∧ OwnC g F' (H' p) x
theorem VRep.b {g : Gh} {m : Md} {H F' H' : Hp} {v : V} {x : PV} (h : VRep g m H F' H' v x) : RepB g F' H' v x := by
  cases m with
  | sh => exact .inl h
  | bo => exact h
  | fr =>
    obtain ⟨p, e, _, _, o⟩ := h
    exact .inr ⟨p, e, o⟩
/-- the frozen heap grows by new objects alone -/
structure Fx (F H F' H' : Hp) : Prop where
  ff : FLe F F'
  fh : FLe F' H'
  nw : ∀ a u, F' a = some u → F a ≠ none ∨ H a = none ∨ ∃ xs, u = .tup xs
theorem Fx.refl {F H : Hp} (h : FLe F H) : Fx F H F H := ⟨.refl F, h, fun a u e => .inl (by rw [e]; simp)⟩
theorem Fx.trans {F H F1 H1 F2 H2 : Hp} (e1 : Ext H H1) (a : Fx F H F1 H1) (b : Fx F1 H1 F2 H2) : Fx F H F2 H2 :=
  ⟨a.ff.trans b.ff, b.fh, fun x u h => by
    rcases b.nw x u h with h1 | h1 | h1
    · cases q : F1 x with
      | none => exact absurd q h1
      | some w =>
        rcases a.nw x w q with h2 | h2 | ⟨xs, h2⟩
        · exact .inl h2
        · exact .inr (.inl h2)
        · subst h2
          have h3 := tup_mono b.ff q
          rw [h] at h3
          exact .inr (.inr ⟨xs, Option.some.inj h3⟩)
    · exact .inr (.inl (e1.back h1))
    · exact .inr (.inr h1)⟩
theorem RepB.mono {g : Gh} {F H F' H' : Hp} {v : V} {x : PV} (e : Ext H H') (f : FLe F F') (h : RepB g F H v x) : RepB g F' H' v x := by
  rcases h with h | ⟨p, rfl, h⟩
  · exact .inl (h.mono f)
  · obtain ⟨u, hu⟩ := h.some
    refine .inr ⟨p, rfl, ?_⟩
    rw [e p u hu, ← hu]
    exact h.mono f
/-- nothing that a slot owns is frozen by what comes -/
theorem Fx.stay {F H F' H' : Hp} (e : Ext H H') (x : Fx F H F' H') {p : Addr} {u : HO} (h : H p = some u) (nt : ∀ xs, u ≠ .tup xs) (f : F p = none) : F' p = none := by
  cases q : F' p with
  | none => rfl
  | some w =>
    rcases x.nw p w q with h1 | h1 | ⟨xs, h1⟩
    · exact absurd f h1
    · rw [h] at h1; cases h1
    · subst h1
      have h2 := tup_mono x.fh q
      rw [e p u h] at h2
      exact absurd (Option.some.inj h2) (nt xs)
theorem OwnC.nt {g : Gh} {F : Hp} {u : HO} : ∀ {x : PV}, OwnC g F (Option.some u) x → ∀ xs, u ≠ .tup xs
  | .lst _, ⟨_, h, _⟩ => by cases h; intro xs z; cases z
  | .dct false _ _, ⟨_, h, _⟩ => by cases h; intro xs z; cases z
  | .dct true _ _, ⟨_, h, _⟩ => by cases h; intro xs z; cases z
  | .non, h => h.elim
  | .bl _, h => h.elim
  | .int _, h => h.elim
  | .str _, h => h.elim
  | .tup _, h => h.elim
  | .ctp _, h => h.elim
  | .cdt _ _, h => h.elim
  | .fn _, h => h.elim
  | .cls _, h => h.elim
  | .ty _, h => h.elim
  | .obj _ _ _, h => h.elim

/-! ### slots -/
def SlR (g : Gh) (xa : Option (Addr × Value × Option Addr)) (H0 F H : Hp) (v : Option (Option V)) (sl : Option Sl) : Prop :=
  match sl with
  | some (.sh x) => ∃ u, v = some (some u) ∧ RepV g F u x
  | some (.ow x) => ∃ p, v = some (some (.ref p)) ∧ H0 p = none ∧ F p = none ∧ OwnC g F (H p) x
  | some (.xc c f) => ∃ a d, xa = some (a, .ref (g.ca c), d) ∧ v = some (some (.ref a)) ∧
      match f with
      | none => d = none
      | some x => ∃ da u, d = some da ∧ F da = some (.xd [(g.xn c, u)]) ∧ RepV g F u x
  | _ => True
structure Rel (g : Gh) (xa : Option (Addr × Value × Option Addr)) (F0 H0 F : Hp) (σ : L2.St) (H : Hp) (env : Env) : Prop where
  ext : Ext H0 H
  fx : Fx F0 H0 F H
  len : σ.length = env.length
  sl : ∀ i : Nat, SlR g xa H0 F H σ[i]? env[i]?
  ap : ∀ (i j : Nat) (x y : PV) (p : Addr), i ≠ j → env[i]? = some (.ow x) → env[j]? = some (.ow y) → σ[i]? = some (some (.ref p)) → σ[j]? ≠ some (some (.ref p))
theorem SlR.mono {g : Gh} {xa : Option (Addr × Value × Option Addr)} {H0 F H F' H' : Hp} {v : Option (Option V)} {sl : Option Sl} (e : Ext H H') (f : Fx F H F' H') (h : SlR g xa H0 F H v sl) : SlR g xa H0 F' H' v sl := by
  unfold SlR at h ⊢
  split at h
  · obtain ⟨u, h1, h2⟩ := h
    exact ⟨u, h1, h2.mono f.ff⟩
  · obtain ⟨p, h1, h2, h3, h4⟩ := h
    obtain ⟨u, hu⟩ := h4.some
    have h4' := h4
    rw [hu] at h4'
    refine ⟨p, h1, h2, f.stay e hu h4'.nt h3, ?_⟩
    rw [e p u hu, ← hu]
    exact h4.mono f.ff
  · obtain ⟨a, d, h1, h2, h3⟩ := h
    refine ⟨a, d, h1, h2, ?_⟩
    split at h3
    · exact h3
    · obtain ⟨da, u, h4, h5, h6⟩ := h3
      refine ⟨da, u, h4, ?_, h6.mono f.ff⟩
      rcases f.ff da _ h5 with h7 | ⟨l, _⟩
      · exact h7
      · exact l.elim
  · trivial
theorem Rel.mono {g : Gh} {xa : Option (Addr × Value × Option Addr)} {F0 H0 F H F' H' : Hp} {σ : L2.St} {env : Env} (e : Ext H H') (f : Fx F H F' H') (r : Rel g xa F0 H0 F σ H env) : Rel g xa F0 H0 F' σ H' env :=
  ⟨r.ext.trans e, Fx.trans r.ext r.fx f, r.len, fun i => (r.sl i).mono e f, r.ap⟩

/-! ### what is wanted behind an expression -/
def XRep (g : Gh) (F : Hp) (d : Option Addr) (x : Ex) : Prop :=
  match x.f with
  | none => d = none
  | some v => ∃ da u, d = some da ∧ F da = some (.xd [(g.xn x.c, u)]) ∧ RepV g F u v
def PostE (g : Gh) (W : WX) (σ : L2.St) (F H : Hp) (r : Rs) (Q : VK) : Prop :=
  match r with
  | .ok m x => ∀ v F' H', Ext H H' → Fx F H F' H' → VRep g m H F' H' v x → Q v H'
  | .ex x => ∀ d F' H', Ext H H' → Fx F H F' H' → XRep g F' d x → W (.ref (g.ca x.c)) d σ H'
  | .bad => False
/-- the reading that the evaluator's result makes -/
def rd (g : Gh) (xa : Option (Addr × Value × Option Addr)) (W : WX) (r : Env → Rs) : TE := fun σ H Q => ∃ F0 H0 F env, Rel g xa F0 H0 F σ H env ∧ PostE g W σ F H (r env) Q
def rdT (g : Gh) (xa : Option (Addr × Value × Option Addr)) (W : WX) (r : Env → Rs) : TT := fun σ H Q => ∃ F0 H0 F env, Rel g xa F0 H0 F σ H env ∧ PostE g W σ F H (r env) fun v H' => ∃ b, v = .bl b ∧ Q b H'
def PostL (g : Gh) (W : WX) (σ : L2.St) (F H : Hp) (r : Rl) (Q : List V → Hp → Prop) : Prop :=
  match r with
  | .ok nob xs => ∀ vs F' H', Ext H H' → Fx F H F' H' → (if nob = true then RepVs g F' vs xs else Paired (RepB g F' H') vs xs) → Q vs H'
  | .ex x => ∀ d F' H', Ext H H' → Fx F H F' H' → XRep g F' d x → W (.ref (g.ca x.c)) d σ H'
  | .bad => False
def rdL (g : Gh) (xa : Option (Addr × Value × Option Addr)) (W : WX) (r : Env → Rl) : TA := fun σ H Q => ∃ F0 H0 F env, Rel g xa F0 H0 F σ H env ∧ PostL g W σ F H (r env) Q

theorem _root_.L2.PE.imp {X : Cx} {e : Expr} {t t' : TE} (h : PE X e t) (i : ∀ σ H Q, t' σ H Q → t σ H Q) : PE X e t' := ⟨fun pins s σ H Q I q => h.run pins s σ H Q I (i σ H Q q)⟩
theorem _root_.L2.PT.imp {X : Cx} {e : Expr} {t t' : TT} (h : PT X e t) (i : ∀ σ H Q, t' σ H Q → t σ H Q) : PT X e t' := ⟨fun pins s σ H Q I q => h.run pins s σ H Q I (i σ H Q q)⟩
theorem _root_.L2.PW.imp {X : Cx} {e : Expr} {t t' : TT} (h : PW X e t) (i : ∀ σ H Q, t' σ H Q → t σ H Q) : PW X e t' := ⟨fun wh pins s σ H Q I q => h.run wh pins s σ H Q I (i σ H Q q)⟩
theorem _root_.L2.PA.imp {X : Cx} {e : List Expr} {t t' : TA} (h : PA X e t) (i : ∀ σ H Q, t' σ H Q → t σ H Q) : PA X e t' := ⟨fun pos pins s σ H Q I q => h.run pos pins s σ H Q I (i σ H Q q)⟩
theorem _root_.L2.PS.imp {X : Cx} {e : Stmt} {t t' : TS} (h : PS X e t) (i : ∀ D σ H, t' D σ H → t D σ H) : PS X e t' := ⟨fun pins s σ H D I q => h.run pins s σ H D I (i D σ H q)⟩
theorem _root_.L2.PSs.imp {X : Cx} {e : List Stmt} {t t' : TS} (h : PSs X e t) (i : ∀ D σ H, t' D σ H → t D σ H) : PSs X e t' := ⟨fun pins s σ H D I q => h.run pins s σ H D I (i D σ H q)⟩

section
variable {g : Gh} {xa : Option (Addr × Value × Option Addr)} {W : WX} {σ : L2.St} {F H F1 H1 F2 H2 : Hp} {Q : VK} {v : V} {x : PV}
/-- behind a part of an expression -/
theorem PostE.step {r : Rs} (e : Ext H H1) (f : Fx F H F1 H1) (p : PostE g W σ F H r Q) (hm : ∀ x, r ≠ .ok .fr x) : PostE g W σ F1 H1 r Q := by
  unfold PostE at p ⊢
  split
  · rename_i m x
    intro v F' H' e' f' r'
    refine p v F' H' (e.trans e') (Fx.trans e f f') ?_
    cases m with
    | sh => exact r'
    | bo => exact r'
    | fr => exact absurd rfl (hm x)
  · intro d F' H' e' f' r'
    exact p d F' H' (e.trans e') (Fx.trans e f f') r'
  · exact p
theorem PostE.go {r : Rs} (e : Ext H H1) (f : Fx F H F1 H1) (p : PostE g W σ F H r Q) : PostE g W σ F1 H1 r Q := by
  unfold PostE at p ⊢
  split
  · rename_i m x
    intro v F' H' e' f' r'
    refine p v F' H' (e.trans e') (Fx.trans e f f') ?_
    cases m with
    | sh => exact r'
    | bo => exact r'
    | fr =>
      obtain ⟨q, h1, h2, h3, h4⟩ := r'
      exact ⟨q, h1, e.back h2, h3, h4⟩
  · intro d F' H' e' f' r'
    exact p d F' H' (e.trans e') (Fx.trans e f f') r'
  · exact p
/-- a new object is frozen -/
theorem Fx.freeze {p : Addr} {u : HO} (fh : FLe F H) (h : H p = none) : Fx F H (upd F p u) (upd H p u) := by
  have hF : F p = none := by
    cases q : F p with
    | none => rfl
    | some w =>
      rcases fh p w q with z | ⟨_, o, z⟩ <;> rw [h] at z <;> cases z
  refine ⟨(Ext.new hF).fle, fun a w e => ?_, fun a w e => ?_⟩
  · by_cases ha : a = p
    · subst ha
      rw [upd_same] at e ⊢
      exact .inl e
    · rw [upd_ne ha] at e ⊢
      exact fh a w e
  · by_cases ha : a = p
    · subst ha
      exact .inr (.inl h)
    · rw [upd_ne ha] at e
      exact .inl (by rw [e]; simp)
/-- a new object is laid, not frozen -/
theorem Fx.lay {p : Addr} {u : HO} (fh : FLe F H) (h : H p = none) : Fx F H F (upd H p u) :=
  ⟨.refl F, fh.trans (Ext.new h).fle, fun a w e => .inl (by rw [e]; simp)⟩
theorem Fx.none {p : Addr} (fh : FLe F H) (h : H p = none) : F p = none := by
  cases q : F p with
  | none => rfl
  | some w =>
    rcases fh p w q with z | ⟨_, o, z⟩ <;> rw [h] at z <;> cases z
/-- a value that is kept: a fresh one is frozen -/
theorem OwnC.rep {p : Addr} {u : HO} : ∀ {x : PV}, OwnC g F (Option.some u) x → F1 p = Option.some u → FLe F F1 → RepV g F1 (.ref p) x
  | .lst _, ⟨vs, h, r⟩, e, f => by
    cases h
    exact .lst (.inl e) (r.mono f)
  | .dct false _ _, ⟨vs, h, r⟩, e, f => by
    cases h
    exact .dK (.inl e) (r.mono f)
  | .dct true _ _, ⟨vs, h, r⟩, e, f => by
    cases h
    exact .dT (.inl e) (r.mono f)
  | .non, h, _, _ => h.elim
  | .bl _, h, _, _ => h.elim
  | .int _, h, _, _ => h.elim
  | .str _, h, _, _ => h.elim
  | .tup _, h, _, _ => h.elim
  | .ctp _, h, _, _ => h.elim
  | .cdt _ _, h, _, _ => h.elim
  | .fn _, h, _, _ => h.elim
  | .cls _, h, _, _ => h.elim
  | .ty _, h, _, _ => h.elim
  | .obj _ _ _, h, _, _ => h.elim
theorem VRep.keep {m : Md} (hm : m ≠ .bo) (f : Fx F H F1 H1) (r : VRep g m H F1 H1 v x) : ∃ F2, Fx F H F2 H1 ∧ FLe F1 F2 ∧ RepV g F2 v x := by
  cases m with
  | bo => exact absurd rfl hm
  | sh => exact ⟨F1, f, .refl _, r⟩
  | fr =>
    obtain ⟨p, rfl, h1, h2, h3⟩ := r
    obtain ⟨u, hu⟩ := h3.some
    have ff : FLe F1 (upd F1 p u) := (Ext.new h2).fle
    refine ⟨upd F1 p u, ⟨f.ff.trans ff, fun a w e => ?_, fun a w e => ?_⟩, ff, ?_⟩
    · by_cases ha : a = p
      · subst ha
        rw [upd_same] at e
        cases e
        exact .inl hu
      · rw [upd_ne ha] at e
        exact f.fh a w e
    · by_cases ha : a = p
      · subst ha
        exact .inr (.inl h1)
      · rw [upd_ne ha] at e
        exact f.nw a w e
    · rw [hu] at h3
      exact h3.rep upd_same ff
end
end EV
set_option Elab.async false
set_option linter.all false
set_option maxRecDepth 100000
set_option maxHeartbeats 2000000
/-! EVc: the operations by values: what the layer's rules ask, out of the evaluator's answers. -/
namespace EV
open PySem PySem.Spec PyProof.Rows L2

section
variable {g : Gh} {F H : Hp} {v : V} {x : PV} {xs : List PV} {s : List Nat} {i : Int} {b : Bool}
theorem RepB.int (h : RepB g F H v (.int i)) : v = .int i := by
  rcases h with h | ⟨p, _, h⟩
  · cases h; rfl
  · exact h.elim
theorem RepB.bl (h : RepB g F H v (.bl b)) : v = .bl b := by
  rcases h with h | ⟨p, _, h⟩
  · cases h; rfl
  · exact h.elim
theorem RepB.non (h : RepB g F H v .non) : v = .non := by
  rcases h with h | ⟨p, _, h⟩
  · cases h; rfl
  · exact h.elim
theorem RepB.str (h : RepB g F H v (.str s)) : v = .str ⟨s.toArray⟩ ∧ s.length ≤ SL := by
  rcases h with h | ⟨p, _, h⟩
  · cases h with | str _ h => exact ⟨rfl, h⟩
  · exact h.elim
theorem RepB.lst (f : FLe F H) (h : RepB g F H v (.lst xs)) : ∃ a vs, v = .ref a ∧ Rd H a (.lst vs) ∧ RepVs g F vs xs := by
  rcases h with h | ⟨p, e, vs, h, r⟩
  · cases h with | lst h r => exact ⟨_, _, rfl, rd_mono f h, r⟩
  · exact ⟨p, vs, e, .inl h, r⟩
theorem RepB.tup (f : FLe F H) (h : RepB g F H v (.tup xs)) : ∃ a vs, v = .ref a ∧ H a = some (.tup vs) ∧ vs.length ≤ sizeLine ∧ RepVs g F vs xs := by
  rcases h with h | ⟨p, _, h⟩
  · cases h with | tup h z r => exact ⟨_, _, rfl, tup_mono f h, z, r⟩
  · exact h.elim
theorem RepB.ckl {ks : List PV} (h : RepB g F H v (.cdt ks xs)) : ∃ a vs, v = .ref a ∧ KL g.K a vs ∧ RepVs g F vs xs := by
  rcases h with h | ⟨p, _, h⟩
  · cases h with | ckl h r => exact ⟨_, _, rfl, h, r⟩
  · exact h.elim
theorem RepB.ctp (h : RepB g F H v (.ctp xs)) : ∃ a vs, v = .ref a ∧ KT g.K a vs ∧ RepVs g F vs xs := by
  rcases h with h | ⟨p, _, h⟩
  · cases h with | ctp h r => exact ⟨_, _, rfl, h, r⟩
  · exact h.elim
theorem RepB.dK {ks vs : List PV} (f : FLe F H) (h : RepB g F H v (.dct false ks vs)) : ∃ a kvs, v = .ref a ∧ Rd H a (.dK kvs) ∧ RepK g F kvs ks vs := by
  rcases h with h | ⟨p, e, kvs, h, r⟩
  · cases h with | dK h r => exact ⟨_, _, rfl, rd_mono f h, r⟩
  · exact ⟨p, kvs, e, .inl h, r⟩
theorem RepB.dT {ks vs : List PV} (f : FLe F H) (h : RepB g F H v (.dct true ks vs)) : ∃ a kvs, v = .ref a ∧ Rd H a (.dT kvs) ∧ RepT g F kvs ks vs := by
  rcases h with h | ⟨p, e, kvs, h, r⟩
  · cases h with | dT h r => exact ⟨_, _, rfl, rd_mono f h, r⟩
  · exact ⟨p, kvs, e, .inl h, r⟩
end
theorem sqT_of {K : PySem.W.Frag} {H : Hp} {a : Addr} {vs : List V} (h : KT K a vs) : SqT K H a vs := .inr h
theorem sqL_of {K : PySem.W.Frag} {H : Hp} {a : Addr} {vs : List V} (h : Rd H a (.lst vs)) : SqL K H a vs := .inl h

section
variable {X : Cx} {pins : List (Addr × Obj)} {σ : L2.St} {H : Hp} {s : Shared} {a : Addr} {vs : List V}
theorem lst_at (I : Inv X pins σ H s) (h : Rd H a (.lst vs)) : vs.length ≤ sizeLine ∧ ∃ (its : List Value) (n : Nat), Vals vs its ∧ s.heap.get? a = some { cls := .type "list", data := .seq its.toArray n } := h.ok I.hok
theorem lst_new {its : List Value} (I : Inv X pins σ H s) (hv : Vals vs its) (hz : vs.length ≤ sizeLine) : Inv X pins σ (upd H s.heap.objs.size (.lst vs)) { s with heap := s.heap.push { cls := .type "list", data := .seq its.toArray } } :=
  I.laid (t' := s.toks) (fun b u e => Heap.get?_push_of_some _ e) (Nat.le_refl _) ⟨hz, its, 0, hv, Heap.get?_push_size _ rfl⟩
theorem tup_new {its : List Value} (I : Inv X pins σ H s) (hv : Vals vs its) (hz : vs.length ≤ sizeLine) : Inv X pins σ (upd H s.heap.objs.size (.tup vs)) { s with heap := s.heap.push { cls := .type "tuple", data := .seq its.toArray } } :=
  I.laid (t' := s.toks) (fun b u e => Heap.get?_push_of_some _ e) (Nat.le_refl _) ⟨hz, its, hv, ⟨_, Heap.get?_push_size _ rfl, rfl, _, rfl⟩⟩
end

/-! ### a new value given to what follows -/
section
variable {g : Gh} {W : WX} {σ : L2.St} {F H : Hp} {Q : VK} {v : V} {x : PV} {m : Md}
theorem post_sh (f : FLe F H) (p : PostE g W σ F H (.ok .sh x) Q) (r : RepV g F v x) : Q v H := p v F H (.refl H) (.refl f) r
/-- a scalar, whatever the mode -/
theorem post_lst {xs : List PV} {vs : List V} (f : FLe F H) (p : PostE g W σ F H (.ok .fr (.lst xs)) Q) (r : RepVs g F vs xs) (a : Addr) (na : H a = none) : Q (.ref a) (upd H a (.lst vs)) :=
  p (.ref a) F _ (Ext.new na) (Fx.lay f na) ⟨a, rfl, na, Fx.none f na, vs, upd_same, r⟩
theorem post_tup {xs : List PV} {vs : List V} (f : FLe F H) (p : PostE g W σ F H (.ok .sh (.tup xs)) Q) (r : RepVs g F vs xs) (z : vs.length ≤ sizeLine) (a : Addr) (na : H a = none) : Q (.ref a) (upd H a (.tup vs)) :=
  p (.ref a) (upd F a (.tup vs)) _ (Ext.new na) (Fx.freeze f na) (.tup upd_same z (r.mono (Fx.freeze (u := .tup vs) f na).ff))
theorem post_dK {ks ws : List PV} {kvs : List (Key × V)} (f : FLe F H) (p : PostE g W σ F H (.ok .fr (.dct false ks ws)) Q) (r : RepK g F kvs ks ws) (a : Addr) (na : H a = none) : Q (.ref a) (upd H a (.dK kvs)) :=
  p (.ref a) F _ (Ext.new na) (Fx.lay f na) ⟨a, rfl, na, Fx.none f na, kvs, upd_same, r⟩
theorem post_dT {ks ws : List PV} {kvs : List (List Key × V)} (f : FLe F H) (p : PostE g W σ F H (.ok .fr (.dct true ks ws)) Q) (r : RepT g F kvs ks ws) (a : Addr) (na : H a = none) : Q (.ref a) (upd H a (.dT kvs)) :=
  p (.ref a) F _ (Ext.new na) (Fx.lay f na) ⟨a, rfl, na, Fx.none f na, kvs, upd_same, r⟩
end

/-! ### the two-place operators -/
def BO.op : BO → Operator
  | .add => .Add | .sub => .Sub | .mul => .Mult | .fdiv => .FloorDiv | .mod => .Mod | .pow => .Pow
def rBin (g : Gh) (o : BO) : R2 := fun x y H Q => ∃ (W : WX) (σ : L2.St) (F : Hp) (px py : PV), FLe F H ∧ RepB g F H x px ∧ RepB g F H y py ∧ PostE g W σ F H (binP o px py) Q

theorem small_of {i : Int} (h : small i = true) : -(2 ^ 64) < i ∧ i < 2 ^ 64 := by
  unfold small at h
  simpa using h
theorem toArr_app (a b : List Nat) : (⟨a.toArray⟩ : Str) ++ ⟨b.toArray⟩ = ⟨(a ++ b).toArray⟩ := by
  show Str.append _ _ = _
  unfold Str.append
  simp
theorem str_len (a : List Nat) : (⟨a.toArray⟩ : Str).length = a.length := by
  show a.toArray.size = _
  simp
theorem SL_line : SL ≤ sizeLine := by decide

section
variable {X : Cx} {g : Gh}
theorem op_cat_rd {pins : List (Addr × Obj)} {s : Shared} {σ : L2.St} {H : Hp} {l b : Addr} {vs ws : List V} {Q : VK} (I : Inv X pins σ H s) (h1 : Rd H l (.lst vs)) (h2 : Rd H b (.lst ws)) (hz : vs.length + ws.length ≤ sizeLine)
    (q : ∀ p, H p = none → Q (.ref p) (upd H p (.lst (vs ++ ws)))) : wpAny (model X.prog X.w) X.A (binaryOp .Add (.ref l) (.ref b)) (EP X pins σ Q) X.xe s := by
  obtain ⟨z, its, n, r, e⟩ := lst_at I h1
  obtain ⟨z2, its2, n2, r2, e2⟩ := lst_at I h2
  have hl := r.length
  have hl2 := r2.length
  refine PySem.P.add_list e e2 ?_ (by rw [List.size_toArray, List.size_toArray]; omega)
  have ea : its.toArray ++ its2.toArray = (its ++ its2).toArray := by simp
  rw [ea]
  exact ⟨.ref _, _, lst_new I (r.append r2) (by rw [List.length_append]; omega), rfl, q _ (I.hok.fresh (Nat.le_refl _))⟩
theorem op_rep_rd {pins : List (Addr × Obj)} {s : Shared} {σ : L2.St} {H : Hp} {l : Addr} {vs : List V} {k : Int} {t : Tok} {Q : VK} (I : Inv X pins σ H s) (h0 : Rd H l (.lst vs)) (h1 : -(2 ^ 63) ≤ k) (h2 : k < 2 ^ 63) (hz : vs.length * k.toNat ≤ sizeLine)
    (q : ∀ p, H p = none → Q (.ref p) (upd H p (.lst (List.replicate k.toNat vs).flatten))) : wpAny (model X.prog X.w) X.A (binaryOp .Mult (.ref l) (.int k t)) (EP X pins σ Q) X.xe s := by
  obtain ⟨z, its, n, r, e⟩ := lst_at I h0
  have hl := r.length
  have hlen : its.toArray.size * k.toNat ≤ sizeLine := by rw [List.size_toArray, ← hl]; exact hz
  have hcap : ¬ its.toArray.size * k.toNat > (2 ^ 63 - 1) / 8 := by
    have : (sizeLine : Nat) ≤ (2 ^ 63 - 1) / 8 := by decide
    omega
  have hfit : ¬ (!Builtin.List.listFitsIndex k) = true := by
    rw [fitsIndex_both h1 h2]
    exact Bool.false_ne_true
  have hlong : ¬ Builtin.List.listTooLong (its.toArray.size * k.toNat) = true := by
    rw [notLongL hlen]
    exact Bool.false_ne_true
  have hnew : List.foldl (fun x1 x2 => x1 ++ x2) #[] (List.replicate (if its.toArray.isEmpty = true then 0 else k.toNat) its.toArray) = (List.replicate k.toNat its).flatten.toArray := by
    have f0 : ∀ m : Nat, List.foldl (fun x1 x2 => x1 ++ x2) #[] (List.replicate m its.toArray) = (List.replicate m its).flatten.toArray := fun m => by
      have := foldl_rep its m []
      rw [List.nil_append] at this
      exact this
    rw [f0]
    cases its with
    | nil => simp
    | cons a r' => rw [if_neg (by simp)]
  refine wpAny_binaryOp_repeat_ref (T := "list") (U := "int") (by decide) ⟨_, e, rfl⟩ (fun s' => typeIs_int s' k t) noFill_list_mul F.fills_int_mul F.slot_int_rmul repeat_list F.slot_int_index.lookup
    (call_meets F.slot_int_rmul (typeIs_int s k t) F.entry_int_rmul (F.args_int_rmul_2 _ _) (int___rmul___int_list k t l its.toArray n)
      ⟨e, rfl, ⟨_, e, rfl⟩, call_meets F.slot_list_mul ⟨_, e, rfl⟩ F.entry_list_mul (F.args_list_mul_2 _ _) (AutoListH.list___mul___list_int_3 l its.toArray n k t hfit hcap hlong) ⟨e, ?_⟩⟩)
  rw [hnew]
  exact ⟨.ref _, _, lst_new I (r.rep k.toNat) (by rw [PyProof.Rows.lm_len_rep_flat, Nat.mul_comm]; exact hz), rfl, q _ (I.hok.fresh (Nat.le_refl _))⟩
theorem foldl_cps (a : List Nat) : ∀ (k : Nat) (acc : List Nat), (List.replicate k a.toArray).foldl (· ++ ·) acc.toArray = (acc ++ (List.replicate k a).flatten).toArray
  | 0, acc => by simp
  | k + 1, acc => by
    rw [List.replicate_succ, List.foldl_cons, List.append_toArray, foldl_cps a k (acc ++ a), List.replicate_succ, List.flatten_cons, List.append_assoc]
theorem len_flat (a : List Nat) (k : Nat) : ((List.replicate k a).flatten).length = k * a.length := by
  induction k with
  | zero => simp
  | succ k ih => rw [List.replicate_succ, List.flatten_cons, List.length_append, ih, Nat.succ_mul, Nat.add_comm]
theorem op_bin (hu : X.A.units + 64 < cLine) (hK : g.K = X.K) : ∀ o : BO, OpR X (binaryOp o.op) (rBin g o) := by
  intro o pins s σ H x y v u Q I rx ry h
  obtain ⟨W, σ', F, px, py, f, bx, by', p⟩ := h
  unfold binP at p
  split at p
  · cases bx.int; cases by'.int
    exact op_add pins s σ H _ _ v u Q I rx ry ⟨_, _, rfl, rfl, post_sh f p (.int _)⟩
  · rename_i a b
    obtain ⟨rfl, ha⟩ := bx.str; obtain ⟨rfl, hb⟩ := by'.str
    split at p
    · rename_i hl
      refine op_add_str pins s σ H _ _ v u Q I rx ry ⟨_, _, rfl, rfl, ?_, ?_⟩
      · rw [str_len, str_len]
        exact Nat.le_trans hl SL_line
      · rw [toArr_app]
        exact post_sh f p (.str _ (by rw [List.length_append]; exact hl))
    · exact p.elim
  · rename_i a b
    obtain ⟨l, vs, rfl, h1, r1⟩ := bx.lst f; obtain ⟨m, ws, rfl, h2, r2⟩ := by'.lst f
    split at p
    · rename_i hl
      cases rx; cases ry
      refine op_cat_rd I h1 h2 ?_ (post_lst f p (r1.append r2))
      rw [r1.length, r2.length]
      exact hl
    · exact p.elim
  · rename_i a b
    obtain ⟨l, vs, rfl, h1, z1, r1⟩ := bx.tup f; obtain ⟨m, ws, rfl, h2, z2, r2⟩ := by'.tup f
    split at p
    · rename_i hl
      refine op_catA pins s σ H _ _ v u Q I rx ry ⟨l, m, vs, ws, rfl, rfl, .of h1, .of h2, ?_, ?_, ?_, ?_⟩
      · rw [r1.length, r2.length]
        exact hl
      · intro e
        subst e
        cases r1
        cases bx with
        | inr h => obtain ⟨_, _, h⟩ := h; exact h.elim
        | inl h =>
          cases by' with
          | inr h => obtain ⟨_, _, h⟩ := h; exact h.elim
          | inl h' => exact post_sh f p h'
      · intro _ e
        subst e
        cases r2
        cases bx with
        | inr h => obtain ⟨_, _, h⟩ := h; exact h.elim
        | inl h =>
          rw [List.append_nil] at p
          exact post_sh f p h
      · intro _ _
        refine post_tup f p (r1.append r2) ?_
        rw [List.length_append, r1.length, r2.length]
        exact hl
    · exact p.elim
  · cases bx.int; cases by'.int
    exact op_sub pins s σ H _ _ v u Q I rx ry ⟨_, _, rfl, rfl, post_sh f p (.int _)⟩
  · cases bx.int; cases by'.int
    split at p
    · rename_i hs
      refine op_mul pins s σ H _ _ v u Q I rx ry ⟨_, _, rfl, rfl, ?_, post_sh f p (.int _)⟩
      rcases (Bool.or_eq_true _ _).mp hs with h | h
      · exact .inl (small_of h)
      · exact .inr (small_of h)
    · exact p.elim
  · rename_i a j
    obtain ⟨l, vs, rfl, h1, r1⟩ := bx.lst f; cases by'.int
    split at p
    · rename_i hs
      simp only [Bool.and_eq_true, decide_eq_true_eq] at hs
      cases rx
      obtain ⟨t, rfl⟩ := ry
      refine op_rep_rd I h1 (by omega) (by omega) ?_ (post_lst f p (r1.rep _))
      rw [r1.length]
      exact hs.2
    · exact p.elim
  · rename_i a j
    obtain ⟨rfl, ha⟩ := bx.str; cases by'.int
    split at p
    · rename_i hs
      simp only [Bool.and_eq_true, decide_eq_true_eq] at hs
      obtain ⟨t, rfl⟩ := rx
      obtain ⟨t', rfl⟩ := ry
      have e1 : (j == 1 || (⟨a.toArray⟩ : Str).length == 0) = false := by
        have z1 : (j == 1) = false := beq_eq_false_iff_ne.mpr (by omega)
        have z2 : ((⟨a.toArray⟩ : Str).length == 0) = false := beq_eq_false_iff_ne.mpr (by rw [str_len]; omega)
        rw [z1, z2]
        rfl
      refine PySem.P.mul_str ?_ ?_ ?_ ?_
      · have h7 : ¬ j < -(2 ^ 63 : Int) := by omega
        have h8 : ¬ j ≥ 2 ^ 63 := by omega
        rw [decide_eq_false h7, decide_eq_false h8]
        rfl
      · intro _ _ hgt
        rw [str_len] at hgt
        have h3 : (a.length : Int) * j ≤ 16000000 := by
          have h4 := hs.2
          have : ((a.length * j.toNat : Nat) : Int) ≤ ((16000000 : Nat) : Int) := Int.ofNat_le.mpr h4
          rw [Int.natCast_mul, Int.toNat_of_nonneg (by omega)] at this
          exact this
        have h5' : a.length ≤ 16000000 := ha
        have h5 : (a.length : Int) ≤ 16000000 := by omega
        have h6 : (16000000 : Int) ≤ (2 ^ 63 - 1) / j := by
          refine Int.le_ediv_of_mul_le (by omega) ?_
          omega
        omega
      · intro _ _
        rw [str_len]
        show decide _ = false
        simp only [decide_eq_false_iff_not]
        intro h
        have h4 : a.length * j.toNat ≤ 16000000 := hs.2
        have h9 : 16000000 ≤ sizeLine := by decide
        omega
      · rw [if_neg (by omega), e1, if_neg Bool.false_ne_true]
        have e2 : (List.replicate j.toNat (⟨a.toArray⟩ : Str).cps).foldl (· ++ ·) #[] = (List.replicate j.toNat a).flatten.toArray := by
          have := foldl_cps a j.toNat []
          simpa using this
        rw [e2]
        have hl : ((List.replicate j.toNat a).flatten).length ≤ SL := by
          rw [len_flat, Nat.mul_comm]
          exact hs.2
        refine ⟨?_, ⟨.str _, H, I.tok _, ⟨_, rfl⟩, post_sh f p (.str _ hl)⟩⟩
        rw [str_len]
        exact Nat.le_trans hl SL_line
    · exact p.elim
  · cases bx.int; cases by'.int
    split at p
    · rename_i hs
      refine op_fdiv pins s σ H _ _ v u Q I rx ry ⟨_, _, rfl, rfl, ?_, post_sh f p (.int _)⟩
      simpa [CDiv] using hs
    · exact p.elim
  · cases bx.int; cases by'.int
    split at p
    · rename_i hs
      exact op_mod pins s σ H _ _ v u Q I rx ry ⟨_, _, rfl, rfl, hs, post_sh f p (.int _)⟩
    · exact p.elim
  · rename_i i j
    cases bx.int; cases by'.int
    split at p
    · rename_i hs
      refine op_pow pins s σ H _ _ v u Q I rx ry ⟨_, _, rfl, rfl, ?_, post_sh f p (.int _)⟩
      simp only [Bool.and_eq_true, decide_eq_true_eq] at hs
      have := small_of hs.2
      exact ⟨hs.1.1, by omega, by omega⟩
    · exact p.elim
  · exact p.elim
end
end EV
set_option Elab.async false
set_option linter.all false
set_option maxRecDepth 100000
set_option maxHeartbeats 2000000
/-! EVd: comparisons by values. -/
namespace EV
open PySem PySem.Spec PyProof.Rows L2

mutual
def toD : PV → PyData
  | .non => .none
  | .bl b => .bool b
  | .int i => .int i
  | .str s => .str ⟨s.toArray⟩
  | .tup xs => .tuple (toDs xs)
  | .ctp xs => .tuple (toDs xs)
  | .lst xs => .list (toDs xs)
  | _ => .dict []
def toDs : List PV → List PyData
  | [] => []
  | x :: xs => toD x :: toDs xs
end
mutual
theorem toD_plain : ∀ x : PV, plain x = true → (toD x).plain = true
  | .non, _ => rfl
  | .bl _, _ => rfl
  | .int _, _ => rfl
  | .str _, _ => rfl
  | .tup xs, h => by
    show PyData.plainAll (toDs xs) = true
    exact toDs_plain xs (by simpa [plain] using h)
  | .lst xs, h => by
    show PyData.plainAll (toDs xs) = true
    exact toDs_plain xs (by simpa [plain] using h)
  | .ctp _, h => by simp [plain] at h
  | .cdt _ _, h => by simp [plain] at h
  | .dct _ _ _, h => by simp [plain] at h
  | .fn _, h => by simp [plain] at h
  | .cls _, h => by simp [plain] at h
  | .ty _, h => by simp [plain] at h
  | .obj _ _ _, h => by simp [plain] at h
theorem toDs_plain : ∀ xs : List PV, plains xs = true → PyData.plainAll (toDs xs) = true
  | [], _ => rfl
  | x :: xs, h => by
    simp only [plains, Bool.and_eq_true] at h
    show ((toD x).plain && PyData.plainAll (toDs xs)) = true
    rw [toD_plain x h.1, toDs_plain xs h.2]
    rfl
end
mutual
theorem toD_dep : ∀ x : PV, plain x = true → (toD x).depth = dep x
  | .non, _ => by simp [toD, PyData.depth, dep]
  | .bl _, _ => by simp [toD, PyData.depth, dep]
  | .int _, _ => by simp [toD, PyData.depth, dep]
  | .str _, _ => by simp [toD, PyData.depth, dep]
  | .tup xs, h => by
    simp only [toD, PyData.depth, dep]
    rw [toDs_dep xs (by simpa [plain] using h)]
  | .lst xs, h => by
    simp only [toD, PyData.depth, dep]
    rw [toDs_dep xs (by simpa [plain] using h)]
  | .ctp _, h => by simp [plain] at h
  | .cdt _ _, h => by simp [plain] at h
  | .dct _ _ _, h => by simp [plain] at h
  | .fn _, h => by simp [plain] at h
  | .cls _, h => by simp [plain] at h
  | .ty _, h => by simp [plain] at h
  | .obj _ _ _, h => by simp [plain] at h
theorem toDs_dep : ∀ xs : List PV, plains xs = true → PyData.depthAll (toDs xs) = deps xs
  | [], _ => by simp [toDs, PyData.depthAll, deps]
  | x :: xs, h => by
    simp only [plains, Bool.and_eq_true] at h
    simp only [toDs, PyData.depthAll, deps]
    rw [toD_dep x h.1, toDs_dep xs h.2]
end
theorem str_eq {a b : List Nat} : ((⟨a.toArray⟩ : Str) == ⟨b.toArray⟩) = (a == b) := by
  by_cases h : a = b
  · subst h
    simp
  · have h2 : (⟨a.toArray⟩ : Str) ≠ ⟨b.toArray⟩ := fun e => h (by
      injection e with e
      simpa using e)
    rw [beq_eq_false_iff_ne.mpr h, beq_eq_false_iff_ne.mpr h2]
mutual
theorem eqv_toD : ∀ x y : PV, plain x = true → plain y = true → PyData.eqv (toD x) (toD y) = eqv x y
  | .non, y, _, hy => by cases y <;> first | (simp [plain] at hy; done) | simp [toD, PyData.eqv, eqv]
  | .bl _, y, _, hy => by cases y <;> first | (simp [plain] at hy; done) | simp [toD, PyData.eqv, eqv]
  | .int _, y, _, hy => by cases y <;> first | (simp [plain] at hy; done) | simp [toD, PyData.eqv, eqv]
  | .str _, y, _, hy => by cases y <;> first | (simp [plain] at hy; done) | simp [toD, PyData.eqv, eqv, str_eq]
  | .tup xs, y, hx, hy => by
    cases y with
    | tup ys =>
      simp only [toD, PyData.eqv, eqv]
      exact eqvs_toD xs ys (by simpa [plain] using hx) (by simpa [plain] using hy)
    | _ => first | (simp [plain] at hy; done) | simp [toD, PyData.eqv, eqv]
  | .lst xs, y, hx, hy => by
    cases y with
    | lst ys =>
      simp only [toD, PyData.eqv, eqv]
      exact eqvs_toD xs ys (by simpa [plain] using hx) (by simpa [plain] using hy)
    | _ => first | (simp [plain] at hy; done) | simp [toD, PyData.eqv, eqv]
  | .ctp _, _, h, _ => by simp [plain] at h
  | .cdt _ _, _, h, _ => by simp [plain] at h
  | .dct _ _ _, _, h, _ => by simp [plain] at h
  | .fn _, _, h, _ => by simp [plain] at h
  | .cls _, _, h, _ => by simp [plain] at h
  | .ty _, _, h, _ => by simp [plain] at h
  | .obj _ _ _, _, h, _ => by simp [plain] at h
theorem eqvs_toD : ∀ xs ys : List PV, plains xs = true → plains ys = true → PyData.eqvAll (toDs xs) (toDs ys) = eqvs xs ys
  | [], [], _, _ => by simp [toDs, PyData.eqvAll, eqvs]
  | [], _ :: _, _, _ => by simp [toDs, PyData.eqvAll, eqvs]
  | _ :: _, [], _, _ => by simp [toDs, PyData.eqvAll, eqvs]
  | x :: xs, y :: ys, hx, hy => by
    simp only [plains, Bool.and_eq_true] at hx hy
    simp only [toDs, PyData.eqvAll, eqvs]
    rw [eqv_toD x y hx.1 hy.1, eqvs_toD xs ys hx.2 hy.2]
end
mutual
theorem alk_toD : ∀ x y : PV, alk x y = true → PySem.W.alike (toD x) (toD y) = true
  | .non, y, h => by cases y <;> simp [alk] at h
  | .bl _, y, h => by cases y <;> first | (simp [alk] at h; done) | simp [toD, PySem.W.alike]
  | .int _, y, h => by cases y <;> first | (simp [alk] at h; done) | simp [toD, PySem.W.alike]
  | .str _, y, h => by cases y <;> first | (simp [alk] at h; done) | simp [toD, PySem.W.alike]
  | .tup xs, y, h => by
    cases y with
    | tup ys =>
      simp only [toD, PySem.W.alike]
      exact alks_toD xs ys (by simpa [alk] using h)
    | _ => simp [alk] at h
  | .lst xs, y, h => by
    cases y with
    | lst ys =>
      simp only [toD, PySem.W.alike]
      exact alks_toD xs ys (by simpa [alk] using h)
    | _ => simp [alk] at h
  | .ctp _, _, h => by simp [alk] at h
  | .cdt _ _, _, h => by simp [alk] at h
  | .dct _ _ _, _, h => by simp [alk] at h
  | .fn _, _, h => by simp [alk] at h
  | .cls _, _, h => by simp [alk] at h
  | .ty _, _, h => by simp [alk] at h
  | .obj _ _ _, _, h => by simp [alk] at h
theorem alks_toD : ∀ xs ys : List PV, alks xs ys = true → PySem.W.alikeAll (toDs xs) (toDs ys) = true
  | [], _, _ => by simp [toDs, PySem.W.alikeAll]
  | _ :: _, [], _ => by simp [toDs, PySem.W.alikeAll]
  | x :: xs, y :: ys, h => by
    simp only [alks, Bool.and_eq_true] at h
    simp only [toDs, PySem.W.alikeAll]
    rw [alk_toD x y h.1, alks_toD xs ys h.2]
    rfl
end
mutual
/-- a tree that is data reads as data -/
theorem dp_of {g : Gh} {F H : Hp} (f : FLe F H) : ∀ {v : V} {x : PV}, plain x = true → RepV g F v x → Dp g.K H v (toD x)
  | _, _, _, .non => .non
  | _, _, _, .bl b => .bl b
  | _, _, _, .int i => .int i
  | _, _, _, .str s _ => .str _
  | _, _, hp, .lst h r => .lst (sqL_of (rd_mono f h)) (dps_of f (by simpa [plain] using hp) r)
  | _, _, hp, .tup h _ r => .tup (.of (tup_mono f h)) (dps_of f (by simpa [plain] using hp) r)
  | _, _, hp, .ctp _ _ => by simp [plain] at hp
  | _, _, hp, .ckl _ _ => by simp [plain] at hp
  | _, _, hp, .dK _ _ => by simp [plain] at hp
  | _, _, hp, .dT _ _ => by simp [plain] at hp
  | _, _, hp, .fn _ => by simp [plain] at hp
  | _, _, hp, .cls _ => by simp [plain] at hp
  | _, _, hp, .ty _ => by simp [plain] at hp
theorem dps_of {g : Gh} {F H : Hp} (f : FLe F H) : ∀ {v : List V} {x : List PV}, plains x = true → RepVs g F v x → DpAll g.K H v (toDs x)
  | _, _, _, .nil => .nil
  | _, _, hp, .cons h r => by
    simp only [plains, Bool.and_eq_true] at hp
    exact .cons (dp_of f hp.1 h) (dps_of f hp.2 r)
end
theorem dpB_of {g : Gh} {F H : Hp} (f : FLe F H) {v : V} {x : PV} (hp : plain x = true) (h : RepB g F H v x) : Dp g.K H v (toD x) := by
  rcases h with h | ⟨p, rfl, h⟩
  · exact dp_of f hp h
  · cases x with
    | lst xs =>
      obtain ⟨vs, h, r⟩ := h
      exact .lst (.of h) (dps_of f (by simpa [plain] using hp) r)
    | dct _ _ _ => simp [plain] at hp
    | _ => exact h.elim

/-! ### the order -/
theorem ltS_eq : ∀ a b : List Nat, ltS a b = decide (a < b)
  | [], [] => by simp [ltS]
  | [], _ :: _ => by simp [ltS]
  | _ :: _, [] => by simp [ltS]
  | a :: r, b :: t => by
    unfold ltS
    by_cases h : a = b
    · subst h
      rw [if_pos rfl, ltS_eq r t]
      simp [List.cons_lt_cons_iff]
    · rw [if_neg h]
      simp [List.cons_lt_cons_iff, h]
mutual
theorem ltv_toD : ∀ x y : PV, plain x = true → plain y = true → alk x y = true → PySem.W.dataLt (toD x) (toD y) = ltv x y
  | .non, y, _, _, h => by cases y <;> simp [alk] at h
  | .bl a, y, _, _, h => by
    cases y with
    | bl b =>
      simp only [toD, ltv]
      rw [PySem.W.dataLt_bool]
      cases a <;> cases b <;> rfl
    | _ => simp [alk] at h
  | .int _, y, _, _, h => by
    cases y with
    | int b =>
      simp only [toD, ltv]
      rw [PySem.W.dataLt_int]
    | _ => simp [alk] at h
  | .str _, y, _, _, h => by
    cases y with
    | str b =>
      simp only [toD, ltv]
      rw [PySem.W.dataLt_str, ltS_eq]
    | _ => simp [alk] at h
  | .tup xs, y, hx, hy, h => by
    cases y with
    | tup ys =>
      simp only [toD, ltv]
      rw [PySem.W.dataLt_tuple]
      exact ltvs_toD xs ys (by simpa [plain] using hx) (by simpa [plain] using hy) (by simpa [alk] using h)
    | _ => simp [alk] at h
  | .lst xs, y, hx, hy, h => by
    cases y with
    | lst ys =>
      simp only [toD, ltv]
      rw [PySem.W.dataLt_list]
      exact ltvs_toD xs ys (by simpa [plain] using hx) (by simpa [plain] using hy) (by simpa [alk] using h)
    | _ => simp [alk] at h
  | .ctp _, _, h, _, _ => by simp [plain] at h
  | .cdt _ _, _, h, _, _ => by simp [plain] at h
  | .dct _ _ _, _, h, _, _ => by simp [plain] at h
  | .fn _, _, h, _, _ => by simp [plain] at h
  | .cls _, _, h, _, _ => by simp [plain] at h
  | .ty _, _, h, _, _ => by simp [plain] at h
  | .obj _ _ _, _, h, _, _ => by simp [plain] at h
theorem ltvs_toD : ∀ xs ys : List PV, plains xs = true → plains ys = true → alks xs ys = true → PyProof.Rows.lexLt itemOrd (PySem.W.keyToksAll (toDs xs)) (PySem.W.keyToksAll (toDs ys)) = ltvs xs ys
  | [], [], _, _, _ => by
    simp only [ltvs]
    exact lex_irrefl _
  | [], y :: ys, _, _, _ => by
    simp only [toDs, PySem.W.keyToksAll, ltvs]
    refine (lex_diff (O := itemOrd) ?_).trans ?_
    · simp
    · show itemLt (.inl 0) (.inl 1) = true
      simp [itemLt]
  | x :: xs, [], _, _, _ => by
    simp only [toDs, PySem.W.keyToksAll, ltvs]
    refine (lex_diff (O := itemOrd) ?_).trans ?_
    · simp
    · show itemLt (.inl 1) (.inl 0) = false
      simp [itemLt]
  | x :: xs, y :: ys, hx, hy, h => by
    simp only [plains, Bool.and_eq_true] at hx hy
    simp only [alks, Bool.and_eq_true] at h
    simp only [toDs]
    rw [PySem.W.dataLt_cons (alk_toD x y h.1), eqv_toD x y hx.1 hy.1, ltv_toD x y hx.1 hy.1 h.1, ltvs_toD xs ys hx.2 hy.2 h.2]
    simp only [ltvs]
end
theorem alk_none {x y : PV} (h : alk x y = true) : toD x ≠ .none := by
  cases x <;> first | (simp [alk] at h; done) | simp [toD]

mutual
theorem alk_symm : ∀ x y : PV, alk x y = true → alk y x = true
  | .bl _, y, h => by cases y <;> first | rfl | (simp [alk] at h; done)
  | .int _, y, h => by cases y <;> first | rfl | (simp [alk] at h; done)
  | .str _, y, h => by cases y <;> first | rfl | (simp [alk] at h; done)
  | .tup xs, y, h => by
    cases y with
    | tup ys =>
      simp only [alk] at h ⊢
      exact alks_symm xs ys h
    | _ => simp [alk] at h
  | .lst xs, y, h => by
    cases y with
    | lst ys =>
      simp only [alk] at h ⊢
      exact alks_symm xs ys h
    | _ => simp [alk] at h
  | .non, _, h => by simp [alk] at h
  | .ctp _, _, h => by simp [alk] at h
  | .cdt _ _, _, h => by simp [alk] at h
  | .dct _ _ _, _, h => by simp [alk] at h
  | .fn _, _, h => by simp [alk] at h
  | .cls _, _, h => by simp [alk] at h
  | .ty _, _, h => by simp [alk] at h
  | .obj _ _ _, _, h => by simp [alk] at h
theorem alks_symm : ∀ xs ys : List PV, alks xs ys = true → alks ys xs = true
  | [], [], _ => rfl
  | [], _ :: _, _ => rfl
  | _ :: _, [], _ => rfl
  | x :: xs, y :: ys, h => by
    simp only [alks, Bool.and_eq_true] at h ⊢
    exact ⟨alk_symm x y h.1, alks_symm xs ys h.2⟩
end
/-! ### a dict asked -/
theorem eqv_int {p : PV} {i : Int} (h : eqv p (.int i) = true) (k : keyOk false p = true) : p = .int i := by
  cases p with
  | int j =>
    simp only [eqv, beq_iff_eq] at h
    rw [h]
  | str s => simp [eqv] at h
  | _ => simp [keyOk] at k
theorem kP_eqv {k k' : Key} {p q : PV} (hp : kP k p) (hq : kP k' q) : eqv p q = decide (k = k') := by
  cases k with
  | inl i =>
    cases p with
    | int j =>
      have e : i = j := hp
      subst e
      cases k' with
      | inl i' =>
        cases q with
        | int j' =>
          have e : i' = j' := hq
          subst e
          simp only [eqv]
          by_cases h : i = i'
          · subst h; simp
          · have : ¬ (Sum.inl i : Key) = Sum.inl i' := fun z => h (Sum.inl.inj z)
            rw [decide_eq_false this]
            exact beq_eq_false_iff_ne.mpr h
        | _ => exact hq.elim
      | inr z =>
        cases q with
        | str s => simp [eqv]
        | _ => exact hq.elim
    | _ => exact hp.elim
  | inr z =>
    cases p with
    | str s =>
      obtain ⟨e, _⟩ := hp
      subst e
      cases k' with
      | inl i' =>
        cases q with
        | int j' => simp [eqv]
        | _ => exact hq.elim
      | inr z' =>
        cases q with
        | str s' =>
          obtain ⟨e, _⟩ := hq
          subst e
          simp only [eqv]
          by_cases h : s = s'
          · subst h; simp
          · have : ¬ (Sum.inr ⟨s.toArray⟩ : Key) = Sum.inr ⟨s'.toArray⟩ := fun z => h (by
              have z2 := Sum.inr.inj z
              injection z2 with z3
              simpa using z3)
            rw [decide_eq_false this]
            exact beq_eq_false_iff_ne.mpr h
        | _ => exact hq.elim
    | _ => exact hp.elim
theorem kPs_eqv : ∀ {k k' : List Key} {p q : List PV}, kPs k p → kPs k' q → eqvs p q = decide (k = k')
  | [], [], [], [], _, _ => rfl
  | [], _ :: _, [], _ :: _, _, _ => by simp [eqvs]
  | _ :: _, [], _ :: _, [], _, _ => by simp [eqvs]
  | k :: ks, k' :: ks', p :: ps, q :: qs, hp, hq => by
    simp only [eqvs]
    rw [kP_eqv hp.1 hq.1, kPs_eqv hp.2 hq.2]
    by_cases h : k = k'
    · subst h
      by_cases h2 : ks = ks'
      · subst h2; simp
      · simp [h2]
    · simp [h]
  | [], _, _ :: _, _, h, _ => h.elim
  | _ :: _, _, [], _, h, _ => h.elim
  | _, [], _, _ :: _, _, h => h.elim
  | _, _ :: _, _, [], _, h => h.elim
theorem getK_dK {g : Gh} {F : Hp} {k : Key} {q : PV} (hq : kP k q) : ∀ {kvs : List (Key × V)} {ks vs : List PV}, RepK g F kvs ks vs →
    (getK q ks vs = none ∧ valV kvs k = none) ∨ ∃ x v, getK q ks vs = some x ∧ valV kvs k = some v ∧ RepV g F v x
  | _, _, _, .nil => .inl ⟨rfl, rfl⟩
  | _, _, _, .cons (k := k1) (v := v) (p := p) (x := x) hk hv r => by
    simp only [getK]
    rw [kP_eqv hk hq]
    by_cases h : k1 = k
    · rw [decide_eq_true h, if_pos rfl, valV_pos h]
      exact .inr ⟨x, v, rfl, rfl, hv⟩
    · rw [decide_eq_false h, if_neg Bool.false_ne_true, valV_neg h]
      exact getK_dK hq r
theorem getK_dT {g : Gh} {F : Hp} {k : List Key} {q : List PV} (hq : kPs k q) : ∀ {kvs : List (List Key × V)} {ks vs : List PV}, RepT g F kvs ks vs →
    (getK (.tup q) ks vs = none ∧ valV kvs k = none) ∨ ∃ x v, getK (.tup q) ks vs = some x ∧ valV kvs k = some v ∧ RepV g F v x
  | _, _, _, .nil => .inl ⟨rfl, rfl⟩
  | _, _, _, .cons (k := k1) (v := v) (p := p) (x := x) hk hv r => by
    have e : eqv (.tup p) (.tup q) = decide (k1 = k) := by
      simp only [eqv]
      exact kPs_eqv hk hq
    simp only [getK]
    rw [e]
    by_cases h : k1 = k
    · rw [decide_eq_true h, if_pos rfl, valV_pos h]
      exact .inr ⟨x, v, rfl, rfl, hv⟩
    · rw [decide_eq_false h, if_neg Bool.false_ne_true, valV_neg h]
      exact getK_dT hq r
/-- is there an entry: the keys alone tell -/
theorem getK_keys (q : PV) : ∀ {ks vs : List PV}, ks.length = vs.length → (getK q ks ks).isSome = (getK q ks vs).isSome
  | [], [], _ => rfl
  | k :: ks, v :: vs, h => by
    simp only [getK]
    cases eqv k q with
    | true => rfl
    | false =>
      simp only [Bool.false_eq_true, if_false]
      exact getK_keys q (by simpa using h)
theorem RepK.len {g : Gh} {F : Hp} : ∀ {kvs : List (Key × V)} {ks vs : List PV}, RepK g F kvs ks vs → kvs.length = ks.length ∧ ks.length = vs.length
  | _, _, _, .nil => ⟨rfl, rfl⟩
  | _, _, _, .cons _ _ r => ⟨congrArg (· + 1) (RepK.len r).1, congrArg (· + 1) (RepK.len r).2⟩
theorem RepT.len {g : Gh} {F : Hp} : ∀ {kvs : List (List Key × V)} {ks vs : List PV}, RepT g F kvs ks vs → kvs.length = ks.length ∧ ks.length = vs.length
  | _, _, _, .nil => ⟨rfl, rfl⟩
  | _, _, _, .cons _ _ r => ⟨congrArg (· + 1) (RepT.len r).1, congrArg (· + 1) (RepT.len r).2⟩
/-- the keys of trees -/
theorem key_of {g : Gh} {F : Hp} {v : V} : ∀ {q : PV}, keyOk false q = true → RepV g F v q → ∃ k, kP k q ∧ v = kV k
  | .int i, _, h => by cases h; exact ⟨.inl i, rfl, rfl⟩
  | .str s, _, h => by cases h with | str _ hl => exact ⟨.inr ⟨s.toArray⟩, ⟨rfl, hl⟩, rfl⟩
  | .tup _, h, _ => by simp [keyOk] at h
  | .non, h, _ => by simp [keyOk] at h
  | .bl _, h, _ => by simp [keyOk] at h
  | .lst _, h, _ => by simp [keyOk] at h
  | .ctp _, h, _ => by simp [keyOk] at h
  | .cdt _ _, h, _ => by simp [keyOk] at h
  | .dct _ _ _, h, _ => by simp [keyOk] at h
  | .fn _, h, _ => by simp [keyOk] at h
  | .cls _, h, _ => by simp [keyOk] at h
  | .ty _, h, _ => by simp [keyOk] at h
  | .obj _ _ _, h, _ => by simp [keyOk] at h
theorem keys_of {g : Gh} {F : Hp} : ∀ {vs : List V} {qs : List PV}, keyOk true (.tup qs) = true → RepVs g F vs qs → ∃ k : List Key, kPs k qs ∧ vs = k.map kV
  | _, _, _, .nil => ⟨[], trivial, rfl⟩
  | _, x :: xs, h, .cons hv r => by
    simp only [keyOk, List.all_cons, Bool.true_and, Bool.and_eq_true] at h
    have h1 : keyOk false x = true := by
      cases x <;> first | rfl | (simp at h; done)
    obtain ⟨k, hk, rfl⟩ := key_of h1 hv
    obtain ⟨ks, hks, rfl⟩ := keys_of (by simpa [keyOk] using h.2) r
    exact ⟨k :: ks, ⟨hk, hks⟩, rfl⟩
theorem keyT {q : PV} (h : keyOk true q = true) : ∃ qs, q = .tup qs := by
  cases q with
  | tup qs => exact ⟨qs, rfl⟩
  | _ => simp [keyOk] at h
/-- d asked for a key -/
theorem dget_of {g : Gh} {F H : Hp} {d y : V} {t : Bool} {ks vs : List PV} {q : PV} (f : FLe F H) (hd : RepB g F H d (.dct t ks vs)) (hy : RepV g F y q) (hk : keyOk t q = true) :
    ∃ a o, d = .ref a ∧ DGet H a y o ∧ ((getK q ks vs = none ∧ o = none) ∨ ∃ x v, getK q ks vs = some x ∧ o = some v ∧ RepV g F v x) ∧ ks.length = vs.length := by
  cases t with
  | false =>
    obtain ⟨a, kvs, rfl, h, r⟩ := hd.dK f
    obtain ⟨k, h1, rfl⟩ := key_of hk hy
    exact ⟨a, _, rfl, .inl ⟨kvs, k, h, rfl, rfl⟩, getK_dK h1 r, r.len.2⟩
  | true =>
    obtain ⟨a, kvs, rfl, h, r⟩ := hd.dT f
    obtain ⟨qs, rfl⟩ := keyT hk
    cases hy with
    | tup h2 _ r2 =>
      obtain ⟨k, h3, rfl⟩ := keys_of hk r2
      exact ⟨a, _, rfl, .inr ⟨kvs, k, _, h, rfl, tup_mono f h2, rfl⟩, getK_dT h3 r, r.len.2⟩
theorem keyB {g : Gh} {F H : Hp} {y : V} {t : Bool} {q : PV} (hk : keyOk t q = true) (hy : RepB g F H y q) : RepV g F y q := by
  rcases hy with h | ⟨p, rfl, h⟩
  · exact h
  · cases q with
    | lst _ => simp [keyOk] at hk
    | dct _ _ _ => simp [keyOk] at hk
    | _ => exact h.elim
theorem isNon {g : Gh} {F H : Hp} {v : V} {x : PV} (h : RepB g F H v x) : decide (v = .non) = isNonP x := by
  rcases h with h | ⟨p, rfl, h⟩
  · cases h <;> simp [isNonP]
  · cases x <;> first | exact h.elim | simp [isNonP]

theorem inP_any (x : PV) (hx : plain x = true) : ∀ ys : List PV, plains ys = true → ((toDs ys).any fun y => PyData.eqv y (toD x)) = inP x ys
  | [], _ => rfl
  | y :: ys, h => by
    simp only [plains, Bool.and_eq_true] at h
    show (PyData.eqv (toD y) (toD x) || (toDs ys).any fun y => PyData.eqv y (toD x)) = (eqv y x || inP x ys)
    rw [eqv_toD y x h.1 hx, inP_any x hx ys h.2]
def CO.op : CO → CmpOp
  | .eq => .Eq | .ne => .NotEq | .lt => .Lt | .le => .LtE | .gt => .Gt | .ge => .GtE | .isin => .In | .notin => .NotIn | .is => .Is | .isnot => .IsNot
def rCmp (g : Gh) (o : CO) : R2 := fun x y H Q => ∃ (W : WX) (σ : L2.St) (F : Hp) (px py : PV), FLe F H ∧ RepB g F H x px ∧ RepB g F H y py ∧ PostE g W σ F H (ofB (cmpP o px py)) Q
theorem ofB_some {g : Gh} {W : WX} {σ : L2.St} {F H : Hp} {Q : VK} {b : Bool} (f : FLe F H) (p : PostE g W σ F H (ofB (some b)) Q) : Q (.bl b) H := post_sh (x := .bl b) f p (.bl b)
theorem sgn_of {x : PV} {c : Nat} (h : sgn x = some c) : x = .str [c] := by
  unfold sgn at h
  split at h
  · cases h; rfl
  · cases h
section
variable {X : Cx} {g : Gh}
theorem op_cmp (hu : X.A.units + 100 < cLine) (hK : g.K = X.K) : ∀ o : CO, OpR X (compareOp o.op) (rCmp g o) := by
  intro o pins s σ H x y v u Q I rx ry h
  obtain ⟨W, σ', F, px, py, f, bx, by', p⟩ := h
  have rds : ∀ {a : V} {va : Value} {pa : PV}, RelV a va → RepB g F H a pa → plain pa = true → ∃ as, Reads s.heap va (toD pa) as := fun {a va pa} ra ba hp =>
    Dp.reads I _ _ _ (hK ▸ dpB_of f hp ba) ra
  have fin : ∀ {b : Bool}, Q (.bl b) H → EP X pins σ Q (.bool b) s := fun {b} q => ⟨.bl b, H, I, rfl, q⟩
  unfold cmpP at p
  split at p
  · -- ==
    split at p
    · rename_i hc
      simp only [Bool.and_eq_true, decide_eq_true_eq] at hc
      obtain ⟨as, r1⟩ := rds rx bx hc.1.1.1
      obtain ⟨bs, r2⟩ := rds ry by' hc.1.1.2
      refine PySem.SeqAt.eq_plain r1 r2 (toD_plain _ hc.1.1.1) (toD_plain _ hc.1.1.2) ?_ ?_
      · rw [toD_dep _ hc.1.1.1, toD_dep _ hc.1.1.2]
        omega
      · rw [eqv_toD _ _ hc.1.1.1 hc.1.1.2]
        exact fin (ofB_some f p)
    · exact p.elim
  · -- !=
    split at p
    · rename_i hc
      simp only [Bool.and_eq_true, decide_eq_true_eq] at hc
      obtain ⟨as, r1⟩ := rds rx bx hc.1.1.1
      obtain ⟨bs, r2⟩ := rds ry by' hc.1.1.2
      refine PySem.SeqAt.ne_plain r1 r2 (toD_plain _ hc.1.1.1) (toD_plain _ hc.1.1.2) ?_ ?_
      · rw [toD_dep _ hc.1.1.1, toD_dep _ hc.1.1.2]
        omega
      · rw [eqv_toD _ _ hc.1.1.1 hc.1.1.2]
        exact fin (ofB_some f p)
    · exact p.elim
  · -- <
    split at p
    · rename_i hc
      simp only [Bool.and_eq_true, decide_eq_true_eq] at hc
      obtain ⟨as, r1⟩ := rds rx bx hc.1.1.1.1
      obtain ⟨bs, r2⟩ := rds ry by' hc.1.1.1.2
      refine PySem.W.lt_data r1 r2 (alk_toD _ _ hc.1.1.2) (alk_none hc.1.1.2) ?_ ?_
      · rw [toD_dep _ hc.1.1.1.1, toD_dep _ hc.1.1.1.2]
        omega
      · rw [ltv_toD _ _ hc.1.1.1.1 hc.1.1.1.2 hc.1.1.2]
        exact fin (ofB_some f p)
    · exact p.elim
  · -- <=
    split at p
    · rename_i hc
      simp only [Bool.and_eq_true, decide_eq_true_eq] at hc
      obtain ⟨as, r1⟩ := rds rx bx hc.1.1.1.1
      obtain ⟨bs, r2⟩ := rds ry by' hc.1.1.1.2
      refine PySem.W.le_data r1 r2 (alk_toD _ _ hc.1.1.2) (alk_none hc.1.1.2) ?_ ?_
      · rw [toD_dep _ hc.1.1.1.1, toD_dep _ hc.1.1.1.2]
        omega
      · rw [ltv_toD _ _ hc.1.1.1.2 hc.1.1.1.1 (alk_symm _ _ hc.1.1.2)]
        exact fin (ofB_some f p)
    · exact p.elim
  · -- >
    split at p
    · rename_i hc
      simp only [Bool.and_eq_true, decide_eq_true_eq] at hc
      obtain ⟨as, r1⟩ := rds rx bx hc.1.1.1.1
      obtain ⟨bs, r2⟩ := rds ry by' hc.1.1.1.2
      refine PySem.W.gt_data r1 r2 (alk_toD _ _ hc.1.1.2) (alk_none hc.1.1.2) ?_ ?_
      · rw [toD_dep _ hc.1.1.1.1, toD_dep _ hc.1.1.1.2]
        omega
      · rw [ltv_toD _ _ hc.1.1.1.2 hc.1.1.1.1 (alk_symm _ _ hc.1.1.2)]
        exact fin (ofB_some f p)
    · exact p.elim
  · -- >=
    split at p
    · rename_i hc
      simp only [Bool.and_eq_true, decide_eq_true_eq] at hc
      obtain ⟨as, r1⟩ := rds rx bx hc.1.1.1.1
      obtain ⟨bs, r2⟩ := rds ry by' hc.1.1.1.2
      refine PySem.W.ge_data r1 r2 (alk_toD _ _ hc.1.1.2) (alk_none hc.1.1.2) ?_ ?_
      · rw [toD_dep _ hc.1.1.1.1, toD_dep _ hc.1.1.1.2]
        omega
      · rw [ltv_toD _ _ hc.1.1.1.1 hc.1.1.1.2 hc.1.1.2]
        exact fin (ofB_some f p)
    · exact p.elim
  · -- a sign in a text
    rename_i b
    cases e : sgn px with
    | none => rw [e] at p; exact p.elim
    | some c =>
      rw [e] at p
      rw [sgn_of e] at bx
      obtain ⟨rfl, _⟩ := bx.str
      obtain ⟨rfl, _⟩ := by'.str
      refine op_in_sign pins s σ H _ _ v u Q I rx ry ⟨c, _, rfl, rfl, ?_⟩
      have := ofB_some f p
      simpa using this
  · rename_i b
    cases e : sgn px with
    | none => rw [e] at p; exact p.elim
    | some c =>
      rw [e] at p
      rw [sgn_of e] at bx
      obtain ⟨rfl, _⟩ := bx.str
      obtain ⟨rfl, _⟩ := by'.str
      refine op_notIn_sign pins s σ H _ _ v u Q I rx ry ⟨c, _, rfl, rfl, ?_⟩
      have := ofB_some f p
      simpa using this
  · -- a key in a dict
    rename_i t ks vs
    split at p
    · rename_i hk
      obtain ⟨a, o, rfl, dg, hr, hl⟩ := dget_of f by' (keyB hk bx) hk
      cases ry
      refine d_in (by omega) I dg rx fun s' I' => ⟨.bl o.isSome, H, I', rfl, ?_⟩
      have q := ofB_some f p
      rw [getK_keys _ hl] at q
      rcases hr with ⟨e1, e2⟩ | ⟨x, v, e1, e2, _⟩
      · rw [e1] at q
        rw [e2]
        exact q
      · rw [e1] at q
        rw [e2]
        exact q
    · exact p.elim
  · rename_i t ks vs
    split at p
    · rename_i hk
      obtain ⟨a, o, rfl, dg, hr, hl⟩ := dget_of f by' (keyB hk bx) hk
      cases ry
      refine d_notIn (by omega) I dg rx fun s' I' => ⟨.bl (!o.isSome), H, I', rfl, ?_⟩
      have q := ofB_some f p
      rw [getK_keys _ hl] at q
      rcases hr with ⟨e1, e2⟩ | ⟨x, v, e1, e2, _⟩
      · rw [e1] at q
        rw [e2]
        exact q
      · rw [e1] at q
        rw [e2]
        exact q
    · exact p.elim
  · -- in a list
    rename_i ys
    split at p
    · rename_i hc
      simp only [Bool.and_eq_true, decide_eq_true_eq] at hc
      obtain ⟨as, r1⟩ := rds rx bx hc.1.1.1
      obtain ⟨bs, r2⟩ := rds (pa := .lst ys) ry by' (by simpa [plain] using hc.1.1.2)
      refine PySem.SeqAt.in_list_data r2 r1 (toDs_plain _ hc.1.1.2) (toD_plain _ hc.1.1.1) ?_ ?_
      · rw [toD_dep _ hc.1.1.1, toDs_dep _ hc.1.1.2]
        omega
      · rw [inP_any _ hc.1.1.1 _ hc.1.1.2]
        exact fin (ofB_some f p)
    · exact p.elim
  · rename_i ys
    split at p
    · rename_i hc
      simp only [Bool.and_eq_true, decide_eq_true_eq] at hc
      obtain ⟨as, r1⟩ := rds rx bx hc.1.1.1
      obtain ⟨bs, r2⟩ := rds (pa := .lst ys) ry by' (by simpa [plain] using hc.1.1.2)
      refine PySem.SeqAt.notIn_list_data r2 r1 (toDs_plain _ hc.1.1.2) (toD_plain _ hc.1.1.1) ?_ ?_
      · rw [toD_dep _ hc.1.1.1, toDs_dep _ hc.1.1.2]
        omega
      · rw [inP_any _ hc.1.1.1 _ hc.1.1.2]
        exact fin (ofB_some f p)
    · exact p.elim
  · rename_i ys
    split at p
    · rename_i hc
      simp only [Bool.and_eq_true, decide_eq_true_eq] at hc
      obtain ⟨as, r1⟩ := rds rx bx hc.1.1.1
      obtain ⟨bs, r2⟩ := rds (pa := .tup ys) ry by' (by simpa [plain] using hc.1.1.2)
      refine PySem.SeqAt.in_tuple_data r2 r1 (toDs_plain _ hc.1.1.2) (toD_plain _ hc.1.1.1) ?_ ?_
      · rw [toD_dep _ hc.1.1.1, toDs_dep _ hc.1.1.2]
        omega
      · rw [inP_any _ hc.1.1.1 _ hc.1.1.2]
        exact fin (ofB_some f p)
    · exact p.elim
  · rename_i ys
    split at p
    · rename_i hc
      simp only [Bool.and_eq_true, decide_eq_true_eq] at hc
      obtain ⟨as, r1⟩ := rds rx bx hc.1.1.1
      obtain ⟨bs, r2⟩ := rds (pa := .tup ys) ry by' (by simpa [plain] using hc.1.1.2)
      refine PySem.SeqAt.notIn_tuple_data r2 r1 (toDs_plain _ hc.1.1.2) (toD_plain _ hc.1.1.1) ?_ ?_
      · rw [toD_dep _ hc.1.1.1, toDs_dep _ hc.1.1.2]
        omega
      · rw [inP_any _ hc.1.1.1 _ hc.1.1.2]
        exact fin (ofB_some f p)
    · exact p.elim
  · -- in a tuple of the module
    rename_i ys
    split at p
    · rename_i hc
      simp only [Bool.and_eq_true, decide_eq_true_eq] at hc
      obtain ⟨as, r1⟩ := rds rx bx hc.1.1.1
      obtain ⟨a, vs, rfl, hk, r⟩ := by'.ctp
      obtain ⟨bs, r2⟩ := Dp.reads I (.tuple (toDs ys)) _ _ (hK ▸ Dp.tup (sqT_of hk) (dps_of f hc.1.1.2 r)) ry
      refine PySem.SeqAt.in_tuple_data r2 r1 (toDs_plain _ hc.1.1.2) (toD_plain _ hc.1.1.1) ?_ ?_
      · rw [toD_dep _ hc.1.1.1, toDs_dep _ hc.1.1.2]
        omega
      · rw [inP_any _ hc.1.1.1 _ hc.1.1.2]
        exact fin (ofB_some f p)
    · exact p.elim
  · rename_i ys
    split at p
    · rename_i hc
      simp only [Bool.and_eq_true, decide_eq_true_eq] at hc
      obtain ⟨as, r1⟩ := rds rx bx hc.1.1.1
      obtain ⟨a, vs, rfl, hk, r⟩ := by'.ctp
      obtain ⟨bs, r2⟩ := Dp.reads I (.tuple (toDs ys)) _ _ (hK ▸ Dp.tup (sqT_of hk) (dps_of f hc.1.1.2 r)) ry
      refine PySem.SeqAt.notIn_tuple_data r2 r1 (toDs_plain _ hc.1.1.2) (toD_plain _ hc.1.1.1) ?_ ?_
      · rw [toD_dep _ hc.1.1.1, toDs_dep _ hc.1.1.2]
        omega
      · rw [inP_any _ hc.1.1.1 _ hc.1.1.2]
        exact fin (ofB_some f p)
    · exact p.elim
  · -- is None
    have e := by'.non
    subst e
    refine op_isN pins s σ H _ _ v u Q I rx ry ⟨rfl, ?_⟩
    rw [isNon bx]
    exact ofB_some f p
  · have e := by'.non
    subst e
    refine op_notN pins s σ H _ _ v u Q I rx ry ⟨rfl, ?_⟩
    rw [isNon bx]
    exact ofB_some f p
  · cases bx.bl; cases by'.bl
    refine op_isBl pins s σ H _ _ v u Q I rx ry ⟨_, _, rfl, rfl, ?_⟩
    have q := ofB_some f p
    simpa [Bool.beq_eq_decide_eq] using q
  · cases bx.bl; cases by'.bl
    refine op_notBl pins s σ H _ _ v u Q I rx ry ⟨_, _, rfl, rfl, ?_⟩
    have q := ofB_some f p
    simpa [Bool.beq_eq_decide_eq] using q
  · exact p.elim
end
end EV
set_option Elab.async false
set_option linter.all false
set_option maxRecDepth 100000
set_option maxHeartbeats 2000000
/-! EVe: items, slices, built-ins by name, by values. -/
namespace EV
open PySem PySem.Spec PyProof.Rows L2

def rSub (g : Gh) : R2 := fun x y H Q => ∃ (W : WX) (σ : L2.St) (F : Hp) (px py : PV), FLe F H ∧ RepB g F H x px ∧ RepB g F H y py ∧ PostE g W σ F H (ofV .sh (subP px py)) Q
theorem ixI_eq (n : Nat) (i : Int) : ixI n i = ixN n i := rfl
theorem atP_eq {α : Type} (xs : List α) (i : Int) : atP xs i = atI xs i := rfl
theorem at_rep {g : Gh} {F : Hp} {vs : List V} {xs : List PV} {i : Int} {x : PV} (r : RepVs g F vs xs) (h : atP xs i = some x) : ∃ v, atI vs i = some v ∧ RepV g F v x := by
  unfold atP at h
  unfold atI
  rw [r.length]
  cases e : ixI xs.length i with
  | none => rw [e] at h; cases h
  | some j =>
    rw [e] at h
    rw [← ixI_eq, e]
    exact r.get h
section
variable {X : Cx} {g : Gh}
theorem ix_dct (hu : X.A.units + 1 < cLine) : IxR X (fun x y H Q => ∃ a v, x = .ref a ∧ DGet H a y (some v) ∧ Q v H) := by
  intro value slice pins s σ H x y v u Q I rx ry h hs
  obtain ⟨a, z, rfl, dg, q⟩ := h
  cases rx
  exact tail_any (dict_typeIs I dg) PySem.F.slot_dict_getitem.lookup (d_getItem hu I dg ry fun w' s' I' rw' => ⟨z, H, I', rw', q⟩) hs
theorem ix_sub (hu : X.A.units + 100 < cLine) (hK : g.K = X.K) : IxR X (rSub g) := by
  intro value slice pins s σ H x y v u Q I rx ry h hs
  obtain ⟨W, σ', F, px, py, f, bx, by', p⟩ := h
  unfold subP at p
  split at p
  · rename_i xs i
    obtain ⟨a, vs, rfl, h1, r1⟩ := bx.lst f
    cases by'.int
    cases e : atP xs i with
    | none => rw [e] at p; exact p.elim
    | some x =>
      rw [e] at p
      obtain ⟨w, e1, r2⟩ := at_rep r1 e
      exact ix_list value slice pins s σ H _ _ v u Q I rx ry ⟨a, vs, i, w, rfl, rfl, sqL_of h1, e1, post_sh f p r2⟩ hs
  · rename_i xs i
    obtain ⟨a, vs, rfl, h1, _, r1⟩ := bx.tup f
    cases by'.int
    cases e : atP xs i with
    | none => rw [e] at p; exact p.elim
    | some x =>
      rw [e] at p
      obtain ⟨w, e1, r2⟩ := at_rep r1 e
      exact ix_tup value slice pins s σ H _ _ v u Q I rx ry ⟨a, vs, i, w, rfl, rfl, .of h1, e1, post_sh f p r2⟩ hs
  · rename_i z i
    obtain ⟨rfl, hl⟩ := bx.str
    cases by'.int
    cases e : atP z i with
    | none => rw [e] at p; exact p.elim
    | some c =>
      rw [e] at p
      refine ix_str value slice pins s σ H _ _ v u Q I rx ry ⟨_, i, c, rfl, rfl, ?_, (by have e' : atI z i = some c := e; simpa using e'), post_sh f p (.str [c] (by show 1 ≤ SL; decide))⟩ hs
      rw [str_len]
      exact Nat.le_trans hl SL_line
  · rename_i t ks vs
    split at p
    · rename_i hk
      obtain ⟨a, o, rfl, dg, hr, _⟩ := dget_of f bx (keyB hk by') hk
      rcases hr with ⟨e1, e2⟩ | ⟨x, v, e1, e2, r⟩
      · rw [e1] at p; exact p.elim
      · rw [e1] at p
        subst e2
        exact ix_dct (by omega) value slice pins s σ H _ _ _ u Q I rx ry ⟨a, v, rfl, dg, post_sh f p r⟩ hs
    · exact p.elim
  · rename_i ks xs i
    obtain ⟨a, vs, rfl, h1, r1⟩ := bx.ckl
    cases by'.int
    cases e : atP xs i with
    | none => rw [e] at p; exact p.elim
    | some x =>
      rw [e] at p
      obtain ⟨w, e1, r2⟩ := at_rep r1 e
      exact ix_list value slice pins s σ H _ _ v u Q I rx ry ⟨a, vs, i, w, rfl, rfl, .inr (by rw [← hK]; exact h1), e1, post_sh f p r2⟩ hs
  · exact p.elim

/-! ### slices -/
def rSlc (g : Gh) : V → Option Int → Option Int → Hp → VK → Prop := fun x lo hi H Q => ∃ (W : WX) (σ : L2.St) (F : Hp) (px : PV), FLe F H ∧ RepB g F H x px ∧ PostE g W σ F H (slcP px lo hi) Q
theorem clp_eq (n d : Nat) (o : Option Int) : clp n d o = HT.sIx n d o := by cases o <;> rfl
theorem cut_rep {F : Hp} {vs : List V} {xs : List PV} (r : RepVs g F vs xs) (lo hi : Option Int) : RepVs g F (cutV vs lo hi) (cut xs lo hi) := by
  unfold cutV cut
  rw [r.length, clp_eq, clp_eq]
  exact (r.drop _).take _
theorem sl_slc (hK : g.K = X.K) : L2.SlR X (rSlc g) := by
  intro pins s σ H x v vl vu lo hi sl Q I rx hs pl pu h
  obtain ⟨W, σ', F, px, f, bx, p⟩ := h
  unfold slcP at p
  split at p
  · rename_i lo' hi' xs
    obtain ⟨a, vs, rfl, h1, r1⟩ := bx.lst f
    exact sl_list pins s σ H _ v vl vu _ _ sl Q I rx hs pl pu ⟨a, vs, rfl, sqL_of h1, post_lst f p (cut_rep r1 _ _)⟩
  · rename_i lo' hi' xs
    obtain ⟨a, vs, rfl, h1, z1, r1⟩ := bx.tup f
    refine sl_tupA pins s σ H _ v vl vu _ _ sl Q I rx hs pl pu ⟨a, vs, rfl, .of h1, fun e => ?_, fun _ => post_tup f p (cut_rep r1 _ _) (Nat.le_trans (cutV_length _ _ _) z1)⟩
    have e3 : cut xs lo hi = xs := by
      unfold cut
      rw [clp_eq, clp_eq, ← r1.length, e.1, e.2, List.drop_zero, Nat.sub_zero, r1.length, List.take_length]
    rw [e3] at p
    rcases bx with hb | ⟨_, _, hb⟩
    · exact post_sh f p hb
    · exact hb.elim
  · rename_i lo' hi' z
    obtain ⟨rfl, hl⟩ := bx.str
    refine sl_str pins s σ H _ v vl vu _ _ sl Q I rx hs pl pu ⟨_, rfl, ?_, ?_⟩
    · rw [str_len]
      exact Nat.le_trans hl SL_line
    · have e : cutS ⟨z.toArray⟩ lo hi = ⟨(cut z lo hi).toArray⟩ := by
        unfold cutS cut
        rw [str_len, clp_eq, clp_eq]
      rw [e]
      refine post_sh f p (.str _ (Nat.le_trans ?_ hl))
      unfold cut
      rw [List.length_take, List.length_drop]
      omega
  · exact p.elim

/-! ### built-ins by name -/
def BF.val : BF → Value
  | .len => .builtin "len" | .all => .builtin "all" | .any => .builtin "any" | .sorted => .builtin "sorted" | .list => .type "list" | .tuple => .type "tuple"
  | .int => .type "int" | .str => .type "str" | .isinst => .builtin "isinstance" | .min => .builtin "min" | .max => .builtin "max" | .sum => .builtin "sum" | .dict => .type "dict" | .set => .type "set"
def rBlt (g : Gh) (b : BF) : List V → Hp → VK → Prop := fun xs H Q => ∃ (W : WX) (σ : L2.St) (F : Hp) (ps : List PV), FLe F H ∧ Paired (RepB g F H) xs ps ∧ PostE g W σ F H (bltP b ps) Q
theorem pr1 {α β : Type} {R : α → β → Prop} {xs : List α} {y : β} (h : Paired R xs [y]) : ∃ x, xs = [x] ∧ R x y := by
  cases h with | cons a b => cases b; exact ⟨_, rfl, a⟩
theorem pr2 {α β : Type} {R : α → β → Prop} {xs : List α} {y z : β} (h : Paired R xs [y, z]) : ∃ x w, xs = [x, w] ∧ R x y ∧ R w z := by
  cases h with | cons a b => cases b with | cons c d => cases d; exact ⟨_, _, rfl, a, c⟩
theorem allT_bools {F : Hp} : ∀ {vs : List V} {xs : List PV} {b : Bool}, RepVs g F vs xs → allT xs = some b → ∃ bs : List Bool, vs = bs.map V.bl ∧ b = bs.all id
  | _, _, _, .nil, h => by
    simp [allT] at h
    exact ⟨[], rfl, by simp [h]⟩
  | _, .bl c :: _, b, .cons (.bl _) r, h => by
    simp only [allT, Option.map_eq_some_iff] at h
    obtain ⟨b', h1, h2⟩ := h
    obtain ⟨bs, rfl, rfl⟩ := allT_bools r h1
    exact ⟨c :: bs, rfl, by rw [← h2]; rfl⟩
  | _, .non :: _, _, .cons _ _, h => by simp [allT] at h
  | _, .int _ :: _, _, .cons _ _, h => by simp [allT] at h
  | _, .str _ :: _, _, .cons _ _, h => by simp [allT] at h
  | _, .lst _ :: _, _, .cons _ _, h => by simp [allT] at h
  | _, .tup _ :: _, _, .cons _ _, h => by simp [allT] at h
  | _, .ctp _ :: _, _, .cons _ _, h => by simp [allT] at h
  | _, .cdt _ _ :: _, _, .cons _ _, h => by simp [allT] at h
  | _, .dct _ _ _ :: _, _, .cons _ _, h => by simp [allT] at h
  | _, .fn _ :: _, _, .cons _ _, h => by simp [allT] at h
  | _, .cls _ :: _, _, .cons _ _, h => by simp [allT] at h
  | _, .ty _ :: _, _, .cons _ _, h => by simp [allT] at h
  | _, .obj _ _ _ :: _, _, .cons _ _, h => by simp [allT] at h
theorem anyT_bools {F : Hp} : ∀ {vs : List V} {xs : List PV} {b : Bool}, RepVs g F vs xs → anyT xs = some b → ∃ bs : List Bool, vs = bs.map V.bl ∧ b = bs.any id
  | _, _, _, .nil, h => by
    simp [anyT] at h
    exact ⟨[], rfl, by simp [h]⟩
  | _, .bl c :: _, b, .cons (.bl _) r, h => by
    simp only [anyT, Option.map_eq_some_iff] at h
    obtain ⟨b', h1, h2⟩ := h
    obtain ⟨bs, rfl, rfl⟩ := anyT_bools r h1
    exact ⟨c :: bs, rfl, by rw [← h2]; rfl⟩
  | _, .non :: _, _, .cons _ _, h => by simp [anyT] at h
  | _, .int _ :: _, _, .cons _ _, h => by simp [anyT] at h
  | _, .str _ :: _, _, .cons _ _, h => by simp [anyT] at h
  | _, .lst _ :: _, _, .cons _ _, h => by simp [anyT] at h
  | _, .tup _ :: _, _, .cons _ _, h => by simp [anyT] at h
  | _, .ctp _ :: _, _, .cons _ _, h => by simp [anyT] at h
  | _, .cdt _ _ :: _, _, .cons _ _, h => by simp [anyT] at h
  | _, .dct _ _ _ :: _, _, .cons _ _, h => by simp [anyT] at h
  | _, .fn _ :: _, _, .cons _ _, h => by simp [anyT] at h
  | _, .cls _ :: _, _, .cons _ _, h => by simp [anyT] at h
  | _, .ty _ :: _, _, .cons _ _, h => by simp [anyT] at h
  | _, .obj _ _ _ :: _, _, .cons _ _, h => by simp [anyT] at h
theorem ints_of {F : Hp} : ∀ {vs : List V} {xs : List PV} {is : List Int}, RepVs g F vs xs → intsOf xs = some is → vs = is.map V.int
  | _, _, _, .nil, h => by
    simp [intsOf] at h
    subst h
    rfl
  | _, .int c :: _, b, .cons (.int _) r, h => by
    simp only [intsOf, Option.map_eq_some_iff] at h
    obtain ⟨b', h1, rfl⟩ := h
    rw [ints_of r h1]
    rfl
  | _, .non :: _, _, .cons _ _, h => by simp [intsOf] at h
  | _, .bl _ :: _, _, .cons _ _, h => by simp [intsOf] at h
  | _, .str _ :: _, _, .cons _ _, h => by simp [intsOf] at h
  | _, .lst _ :: _, _, .cons _ _, h => by simp [intsOf] at h
  | _, .tup _ :: _, _, .cons _ _, h => by simp [intsOf] at h
  | _, .ctp _ :: _, _, .cons _ _, h => by simp [intsOf] at h
  | _, .cdt _ _ :: _, _, .cons _ _, h => by simp [intsOf] at h
  | _, .dct _ _ _ :: _, _, .cons _ _, h => by simp [intsOf] at h
  | _, .fn _ :: _, _, .cons _ _, h => by simp [intsOf] at h
  | _, .cls _ :: _, _, .cons _ _, h => by simp [intsOf] at h
  | _, .ty _ :: _, _, .cons _ _, h => by simp [intsOf] at h
  | _, .obj _ _ _ :: _, _, .cons _ _, h => by simp [intsOf] at h
/-- the type of a tree by its name -/
def tyOf : PV → String
  | .non => "NoneType" | .bl _ => "bool" | .int _ => "int" | .str _ => "str" | .lst _ => "list" | .tup _ => "tuple" | _ => "dict"
def oneOf : PV → Bool
  | .non => true | .bl _ => true | .int _ => true | .str _ => true | .lst _ => true | .tup _ => true | _ => false
theorem tyx_of {F H : Hp} {v : V} {x : PV} (f : FLe F H) (h : RepB g F H v x) (hx : oneOf x = true) : TyX g.K H v (.type (tyOf x)) := by
  cases x with
  | non => cases h.non; exact .base .non
  | bl b => cases h.bl; exact .base (.bl b)
  | int b => cases h.int; exact .base (.int b)
  | str b => obtain ⟨rfl, _⟩ := h.str; exact .base (.str _)
  | lst b =>
    obtain ⟨a, vs, rfl, h1, _⟩ := h.lst f
    rcases h1 with h1 | ⟨o, h1⟩
    · exact .base (.lst h1)
    · exact .base (.frz h1)
  | tup b =>
    obtain ⟨a, vs, rfl, h1, _⟩ := h.tup f
    exact .base (.tup h1)
  | _ => simp [oneOf] at hx
theorem isTy_one {x : PV} {t : Nat} {b : Bool} (h : isTy x t = some b) : oneOf x = true ∧ kitB (tyOf x) (tyN t) = some b := by
  have k : ∀ t : Fin 5, kitB "NoneType" (tyN t) = some false ∧ kitB "bool" (tyN t) = some (t == 0 || t == 4) ∧ kitB "int" (tyN t) = some (t == 0) ∧ kitB "str" (tyN t) = some (t == 1) ∧ kitB "list" (tyN t) = some (t == 2) ∧ kitB "tuple" (tyN t) = some (t == 3) := by decide +kernel
  have k0 := k 0
  have k1 := k 1
  have k2 := k 2
  have k3 := k 3
  have k4 := k 4
  match t with
  | 0 => cases x <;> simp [isTy] at h <;> subst h <;> exact ⟨rfl, by simp [tyOf]; first | exact k0.1 | exact k0.2.1 | exact k0.2.2.1 | exact k0.2.2.2.1 | exact k0.2.2.2.2.1 | exact k0.2.2.2.2.2⟩
  | 1 => cases x <;> simp [isTy] at h <;> subst h <;> exact ⟨rfl, by simp [tyOf]; first | exact k1.1 | exact k1.2.1 | exact k1.2.2.1 | exact k1.2.2.2.1 | exact k1.2.2.2.2.1 | exact k1.2.2.2.2.2⟩
  | 2 => cases x <;> simp [isTy] at h <;> subst h <;> exact ⟨rfl, by simp [tyOf]; first | exact k2.1 | exact k2.2.1 | exact k2.2.2.1 | exact k2.2.2.2.1 | exact k2.2.2.2.2.1 | exact k2.2.2.2.2.2⟩
  | 3 => cases x <;> simp [isTy] at h <;> subst h <;> exact ⟨rfl, by simp [tyOf]; first | exact k3.1 | exact k3.2.1 | exact k3.2.2.1 | exact k3.2.2.2.1 | exact k3.2.2.2.2.1 | exact k3.2.2.2.2.2⟩
  | 4 => cases x <;> simp [isTy] at h <;> subst h <;> exact ⟨rfl, by simp [tyOf]; first | exact k4.1 | exact k4.2.1 | exact k4.2.2.1 | exact k4.2.2.2.1 | exact k4.2.2.2.2.1 | exact k4.2.2.2.2.2⟩
  | n + 5 => simp [isTy] at h

/-- sorted by trees -/
theorem pair_each {α β : Type} {R : α → β → Prop} : ∀ {xs : List α} {ys : List β}, Paired R xs ys → PySem.W.EachIs R xs ys
  | _, _, .nil => .nil
  | _, _, .cons h t => .cons h (pair_each t)
theorem each_vals {us : List Value} {ps : List (V × PV)} : PySem.W.EachIs (fun u p => RelV p.1 u) us ps → Vals (ps.map (·.1)) us := by
  intro h
  induction h with
  | nil => exact .nil
  | cons h _ ih => exact .cons h ih
theorem each_of : ∀ (ps : List (V × PV)) (us : List Value), Vals (ps.map (·.1)) us → PySem.W.EachIs (fun (u : Value) (p : V × PV) => RelV p.1 u) us ps
  | [], _, .nil => .nil
  | p :: ps, _, .cons h t => .cons h (each_of ps _ t)
theorem each_imp {α β : Type} {R R' : α → β → Prop} : ∀ {xs : List α} {ys : List β}, PySem.W.EachIs R xs ys → (∀ x y, y ∈ ys → R x y → R' x y) → PySem.W.EachIs R' xs ys
  | _, _, .nil, _ => .nil
  | _, _, .cons h t, i => .cons (i _ _ (by simp) h) (each_imp t fun x y hy => i x y (by simp [hy]))
theorem RepVs.zip {F : Hp} : ∀ {vs : List V} {xs : List PV}, RepVs g F vs xs → ∃ ps : List (V × PV), ps.map (·.1) = vs ∧ ps.map (·.2) = xs ∧ ∀ p ∈ ps, RepV g F p.1 p.2
  | _, _, .nil => ⟨[], rfl, rfl, fun _ h => nomatch h⟩
  | _, _, .cons (v := v) (x := x) h r => by
    obtain ⟨ps, h1, h2, h3⟩ := RepVs.zip r
    refine ⟨(v, x) :: ps, by simp [h1], by simp [h2], fun p hp => ?_⟩
    rcases List.mem_cons.mp hp with e | hp
    · rw [e]; exact h
    · exact h3 p hp
theorem RepVs.of_pairs {F : Hp} : ∀ {ps : List (V × PV)}, (∀ p ∈ ps, RepV g F p.1 p.2) → RepVs g F (ps.map (·.1)) (ps.map (·.2))
  | [], _ => .nil
  | p :: ps, h => .cons (h p (by simp)) (RepVs.of_pairs fun q hq => h q (by simp [hq]))
theorem plains_mem {x : PV} : ∀ {xs : List PV}, plains xs = true → x ∈ xs → plain x = true
  | y :: ys, h, hx => by
    simp only [plains, Bool.and_eq_true] at h
    rcases List.mem_cons.mp hx with e | hx
    · rw [e]; exact h.1
    · exact plains_mem h.2 hx
theorem deps_mem {x : PV} : ∀ {xs : List PV}, x ∈ xs → dep x ≤ deps xs
  | y :: ys, hx => by
    simp only [deps]
    rcases List.mem_cons.mp hx with e | hx
    · rw [e]; omega
    · have := deps_mem hx
      omega
theorem call_sorted (hu : X.A.units + 100 < cLine) (hK : g.K = X.K) {pins : List (Addr × Obj)} {s : Shared} {σ : L2.St} {H F : Hp} {a : Addr} {vs : List V} {xs : List PV} {Q : VK} (I : Inv X pins σ H s) (f : FLe F H)
    (h1 : Rd H a (.lst vs)) (r : RepVs g F vs xs) (ha : alkAll xs = true) (q : ∀ p ws, H p = none → RepVs g F ws (sortP xs) → Q (.ref p) (upd H p (.lst ws))) :
    wpAny (model X.prog X.w) X.A (call (.builtin "sorted") [.ref a]) (EP X pins σ Q) X.xe s := by
  unfold alkAll at ha
  simp only [Bool.and_eq_true, decide_eq_true_eq, List.all_eq_true, Bool.or_eq_true] at ha
  obtain ⟨⟨⟨hp, hd⟩, ht⟩, hal⟩ := ha
  obtain ⟨z, its, n, rv, e⟩ := lst_at I h1
  obtain ⟨ps, e1, e2, e3⟩ := RepVs.zip r
  have mem2 : ∀ p ∈ ps, p.2 ∈ xs := fun p hp' => by rw [← e2]; exact List.mem_map_of_mem hp'
  have ev : PySem.W.EachIs (fun (u : Value) (p : V × PV) => RelV p.1 u) its ps := each_of ps its (by rw [e1]; exact rv)
  have er : PySem.W.EachIs (fun (u : Value) (p : V × PV) => ∃ as, Reads s.heap u (toD p.2) as) its ps := each_imp ev fun u p hp' r' =>
    Dp.reads I _ _ _ (hK ▸ dp_of f (plains_mem hp (mem2 p hp')) (e3 p hp')) r'
  refine PySem.W.sorted_data (enc := fun p => toD p.2) ⟨_, e, rfl, _, rfl⟩ ev er ?_ ?_ ?_ ?_ fun out ho eo => ?_
  · intro d hd d' hd'
    obtain ⟨p, hp1, rfl⟩ := List.mem_map.mp hd
    obtain ⟨p', hp2, rfl⟩ := List.mem_map.mp hd'
    exact alk_toD _ _ (hal _ (mem2 p hp1) _ (mem2 p' hp2))
  · rcases ht with ht | ht
    · refine .inl fun d hd => ?_
      obtain ⟨p, hp1, rfl⟩ := List.mem_map.mp hd
      have := ht _ (mem2 p hp1)
      cases e4 : p.2 with
      | tup l =>
        cases l with
        | nil => rw [e4] at this; simp [isTup] at this
        | cons y ys => exact ⟨toD y, toDs ys, by simp [toD, toDs]⟩
      | _ => rw [e4] at this; simp [isTup] at this
    · refine .inr fun d hd => ?_
      obtain ⟨p, hp1, rfl⟩ := List.mem_map.mp hd
      have h5 := ht _ (mem2 p hp1)
      have h6 := plains_mem hp (mem2 p hp1)
      have h7 := alk_none (hal _ (mem2 p hp1) _ (mem2 p hp1))
      refine ⟨h7, fun ys => ?_⟩
      cases e4 : p.2 with
      | tup l => rw [e4] at h5; simp [noTup] at h5
      | ctp l => rw [e4] at h6; simp [plain] at h6
      | _ => simp [toD]
  · have : ps.length = vs.length := by rw [← e1]; simp
    rw [this]
    exact z
  · intro p hp1
    have h6 := plains_mem hp (mem2 p hp1)
    have h8 := deps_mem (mem2 p hp1)
    show X.A.units + 2 + (toD p.2).depth < cLine
    rw [toD_dep _ h6]
    omega
  · obtain ⟨ep, he'⟩ := PyProof.Rows.sortedAll_at s.heap its out.toArray
    have h9 : (ps.mergeSort (PySem.W.dataLe false fun p => toD p.2)).map (·.2) = sortP xs := by
      unfold sortP
      rw [← e2]
      refine List.map_mergeSort fun p hp1 p' hp2 => ?_
      rw [PySem.W.dataLe_eq]
      show (!PySem.W.dataLt (toD p'.2) (toD p.2)) = lev p.2 p'.2
      unfold lev
      rw [ltv_toD _ _ (plains_mem hp (mem2 p' hp2)) (plains_mem hp (mem2 p hp1)) (hal _ (mem2 p' hp2) _ (mem2 p hp1))]
    have h10 : RepVs g F ((ps.mergeSort (PySem.W.dataLe false fun p => toD p.2)).map (·.1)) (sortP xs) := by
      rw [← h9]
      exact RepVs.of_pairs fun p hp1 => e3 p (List.mem_mergeSort.mp hp1)
    have hv := each_vals eo
    refine ⟨.ref _, upd H (s.heap.objs.size + 1) (.lst _), I.laid (t' := s.toks) (fun _ _ => PyProof.Rows.sortedAll_old) (Nat.le_succ _) ⟨?_, out, ep, hv, he'⟩, rfl, q _ _ (I.hok.fresh (Nat.le_succ _)) h10⟩
    rw [List.length_map, List.length_mergeSort]
    have : ps.length = vs.length := by rw [← e1]; simp
    rw [this]
    exact z
end
end EV
set_option Elab.async false
set_option linter.all false
set_option maxRecDepth 100000
set_option maxHeartbeats 2000000
/-! EVf: calls of built-ins, methods of texts, by values. -/
namespace EV
open PySem PySem.Spec PyProof.Rows L2
section
variable {X : Cx} {g : Gh}
theorem RepK.keys {F : Hp} : ∀ {kvs : List (Key × V)} {ks vs : List PV}, RepK g F kvs ks vs → RepVs g F (kvs.map fun kv => kV kv.1) ks
  | _, _, _, .nil => .nil
  | _, _, _, .cons (k := .inl i) (p := .int j) hk hv r => by
    have e : i = j := hk
    subst e
    exact .cons (.int i) (RepK.keys r)
  | _, _, _, .cons (k := .inr z) (p := .str s) hk hv r => by
    obtain ⟨rfl, hl⟩ := hk
    exact .cons (.str s hl) (RepK.keys r)
theorem kPs_rep {F : Hp} : ∀ {k : List Key} {p : List PV}, kPs k p → RepVs g F (k.map kV) p
  | [], [], _ => .nil
  | .inl i :: ks, .int j :: ps, h => by
    have e : i = j := h.1
    subst e
    exact .cons (.int i) (kPs_rep h.2)
  | .inr z :: ks, .str s :: ps, h => by
    obtain ⟨⟨rfl, hl⟩, h2⟩ := h
    exact .cons (.str s hl) (kPs_rep h2)
  | .inl _ :: _, .non :: _, h => h.1.elim
  | .inl _ :: _, .bl _ :: _, h => h.1.elim
  | .inl _ :: _, .str _ :: _, h => h.1.elim
  | .inl _ :: _, .tup _ :: _, h => h.1.elim
  | .inl _ :: _, .lst _ :: _, h => h.1.elim
  | .inl _ :: _, .ctp _ :: _, h => h.1.elim
  | .inl _ :: _, .cdt _ _ :: _, h => h.1.elim
  | .inl _ :: _, .dct _ _ _ :: _, h => h.1.elim
  | .inl _ :: _, .fn _ :: _, h => h.1.elim
  | .inl _ :: _, .cls _ :: _, h => h.1.elim
  | .inl _ :: _, .ty _ :: _, h => h.1.elim
  | .inl _ :: _, .obj _ _ _ :: _, h => h.1.elim
  | .inr _ :: _, .non :: _, h => h.1.elim
  | .inr _ :: _, .bl _ :: _, h => h.1.elim
  | .inr _ :: _, .int _ :: _, h => h.1.elim
  | .inr _ :: _, .tup _ :: _, h => h.1.elim
  | .inr _ :: _, .lst _ :: _, h => h.1.elim
  | .inr _ :: _, .ctp _ :: _, h => h.1.elim
  | .inr _ :: _, .cdt _ _ :: _, h => h.1.elim
  | .inr _ :: _, .dct _ _ _ :: _, h => h.1.elim
  | .inr _ :: _, .fn _ :: _, h => h.1.elim
  | .inr _ :: _, .cls _ :: _, h => h.1.elim
  | .inr _ :: _, .ty _ :: _, h => h.1.elim
  | .inr _ :: _, .obj _ _ _ :: _, h => h.1.elim
  | [], _ :: _, h => h.elim
  | _ :: _, [], h => h.elim
/-- the frozen heap with some more tuples -/
def addT (F H : Hp) (bs : List Addr) : Hp := fun a => if a ∈ bs then (match H a with | some (.tup xs) => some (.tup xs) | _ => F a) else F a
theorem addT_fx {F H : Hp} {bs : List Addr} (f : FLe F H) : Fx F H (addT F H bs) H := by
  refine ⟨fun a u e => ?_, fun a u e => ?_, fun a u e => ?_⟩
  · by_cases hb : a ∈ bs
    · cases q : H a with
      | none => exact .inl (by simp [addT, hb, q, e])
      | some w =>
        cases w with
        | tup xs =>
          rcases f a u e with h | ⟨l, o, h⟩
          · rw [q] at h
            exact .inl (by simp [addT, hb, q, ← Option.some.inj h])
          · rw [q] at h; cases h
        | _ => exact .inl (by simp [addT, hb, q, e])
    · exact .inl (by simp [addT, hb, e])
  · by_cases hb : a ∈ bs
    · cases q : H a with
      | none => simp [addT, hb, q] at e; exact absurd (f a u e) (by rw [q]; simp)
      | some w =>
        cases w with
        | tup xs =>
          simp [addT, hb, q] at e
          exact .inl (by rw [e])
        | _ =>
          simp [addT, hb, q] at e
          have := f a u e
          rw [q] at this
          exact this
    · simp [addT, hb] at e
      exact f a u e
  · by_cases hb : a ∈ bs
    · cases q : H a with
      | none => simp [addT, hb, q] at e; exact .inl (by rw [e]; simp)
      | some w =>
        cases w with
        | tup xs =>
          simp [addT, hb, q] at e
          exact .inr (.inr ⟨xs, e.symm⟩)
        | _ => simp [addT, hb, q] at e; exact .inl (by rw [e]; simp)
    · simp [addT, hb] at e
      exact .inl (by rw [e]; simp)
theorem keysT_rep {F H : Hp} {B : List Addr} (hz : ∀ (k : List Key) (b : Addr), H b = some (.tup (k.map kV)) → (k.map kV).length ≤ sizeLine) : ∀ {kvs : List (List Key × V)} {ks vs : List PV} {bs : List Addr}, RepT g F kvs ks vs → IsKeys H kvs bs → (∀ b ∈ bs, b ∈ B) → RepVs g (addT F H B) (bs.map V.ref) ks
  | _, _, _, [], .nil, .nil, _ => .nil
  | _, _, _, b :: bs, .cons hk hv r, .cons h t, hB => by
    refine .cons ?_ (keysT_rep hz r t fun c hc => hB c (by simp [hc]))
    refine .tup (vs := _) ?_ (hz _ b h) (kPs_rep hk)
    show addT F H B b = _
    unfold addT
    rw [if_pos (hB b (by simp)), h]
theorem d_listK (hc : X.calm = true) {pins : List (Addr × Obj)} {s : Shared} {σ : L2.St} {H : Hp} {p : Addr} {kvs : List (Key × V)} {Q : VK} (I : Inv X pins σ H s) (hk : Rd H p (.dK kvs)) (q : ∀ q, H q = none → Q (.ref q) (upd H q (.lst (kvs.map fun kv => kV kv.1)))) :
    wpAny (model X.prog X.w) X.A (call (.type "list") [.ref p]) (EP X pins σ Q) X.xe s := by
  obtain ⟨z, lo, vs, rk, hd⟩ := (show ObjOk X.prog X.w H s.heap p (.dK kvs) from hk.ok I.hok)
  obtain ⟨ep, hat⟩ := hd.dictAt
  have hl : kvs.length = vs.length := Paired.length rk
  refine PySem.W.kdl_call (PySem.W.kdl_dict (knd := mixKind X.prog X.w) (kvs := vs) (ep := ep) lo) (I.ok.hd hc) hat (by rw [← hl]; exact z) fun h' tk acc' c' hkeep hS hacc => ?_
  refine ⟨.ref s.heap.objs.size, upd H s.heap.objs.size (.lst (kvs.map fun kv => kV kv.1)), I.laid hkeep (Nat.le_refl _) (show ObjOk X.prog X.w _ _ _ (.lst (kvs.map fun kv => kV kv.1)) from ⟨?_, acc'.toList, c', ?_, ?_⟩), rfl, q _ (I.hok.fresh (Nat.le_refl _))⟩
  · rw [List.length_map]; exact z
  · have el : acc'.toList.length = acc'.size := by simp
    refine vals_of_at (by rw [List.length_map, el, hacc.1, hl]) fun j x w h1 h2 => ?_
    obtain ⟨k, y, hky, hi⟩ := hacc.2 j w (by rw [← Array.getElem?_toList]; exact h2)
    have e1 : (kvs.map (·.1))[j]? = some k := by
      rw [KV.keys rk, List.getElem?_map, hky] <;> rfl
    have e2 : (kvs.map fun kv => kV kv.1)[j]? = some (kV k) := by
      have e3 : (kvs.map fun kv => kV kv.1) = (kvs.map (·.1)).map kV := by rw [List.map_map] <;> rfl
      rw [e3, List.getElem?_map, e1] <;> rfl
    rw [e2] at h1
    cases h1
    exact keyIs_rel hi
  · rw [Array.toArray_toList]; exact hS
theorem num_text (n : Nat) : Str.ofString (toString ((n : Nat) : Int)) = ⟨(numD n).toArray⟩ := SX.num_S n
theorem call_blt (hc : X.calm = true) (hu : X.A.units + 100 < cLine) (hK : g.K = X.K) : ∀ b : BF, CallR X b.val (rBlt g b) := by
  intro b pins s σ H xs us Q I r h
  obtain ⟨W, σ', F, ps, f, pr, p⟩ := h
  unfold bltP at p
  split at p
  · obtain ⟨x, rfl, bx⟩ := pr1 pr
    obtain ⟨a, vs, rfl, h1, r1⟩ := bx.lst f
    refine call_len_seq pins s σ H _ us Q I r ⟨a, vs, rfl, .inl (sqL_of h1), ?_⟩
    rw [r1.length]
    exact post_sh f p (.int _)
  · obtain ⟨x, rfl, bx⟩ := pr1 pr
    obtain ⟨a, vs, rfl, h1, _, r1⟩ := bx.tup f
    refine call_len_seq pins s σ H _ us Q I r ⟨a, vs, rfl, .inr (.of h1), ?_⟩
    rw [r1.length]
    exact post_sh f p (.int _)
  · obtain ⟨x, rfl, bx⟩ := pr1 pr
    obtain ⟨a, vs, rfl, h1, r1⟩ := bx.ckl
    refine call_len_seq pins s σ H _ us Q I r ⟨a, vs, rfl, .inl (.inr (by rw [← hK]; exact h1)), ?_⟩
    rw [r1.length]
    exact post_sh f p (.int _)
  · rename_i z
    obtain ⟨x, rfl, bx⟩ := pr1 pr
    obtain ⟨rfl, hl⟩ := bx.str
    refine call_len_str pins s σ H _ us Q I r ⟨_, rfl, ?_, ?_⟩
    · rw [str_len]
      exact Nat.le_trans hl SL_line
    · rw [str_len]
      exact post_sh f p (.int _)
  · rename_i ks vs
    obtain ⟨x, rfl, bx⟩ := pr1 pr
    obtain ⟨a, kvs, rfl, h1, r1⟩ := bx.dK f
    obtain ⟨u, rfl, ru⟩ := vals1 r
    cases ru
    refine d_len I h1 fun t s' I' => ⟨.int kvs.length, H, I', ⟨t, rfl⟩, ?_⟩
    rw [r1.len.1]
    exact post_sh f p (.int _)
  · rename_i ys
    obtain ⟨x, rfl, bx⟩ := pr1 pr
    obtain ⟨a, vs, rfl, h1, r1⟩ := bx.lst f
    cases e : allT ys with
    | none => rw [e] at p; exact p.elim
    | some c =>
      rw [e] at p
      obtain ⟨bs, rfl, rfl⟩ := allT_bools r1 e
      exact cr_all hc pins s σ H _ us Q I r ⟨a, bs, rfl, sqL_of h1, ofB_some f p⟩
  · rename_i ys
    obtain ⟨x, rfl, bx⟩ := pr1 pr
    obtain ⟨a, vs, rfl, h1, r1⟩ := bx.lst f
    cases e : anyT ys with
    | none => rw [e] at p; exact p.elim
    | some c =>
      rw [e] at p
      obtain ⟨bs, rfl, rfl⟩ := anyT_bools r1 e
      exact cr_any hc pins s σ H _ us Q I r ⟨a, bs, rfl, sqL_of h1, ofB_some f p⟩
  · rename_i ys
    obtain ⟨x, rfl, bx⟩ := pr1 pr
    obtain ⟨a, vs, rfl, h1, r1⟩ := bx.lst f
    split at p
    · rename_i hs
      simp only [Bool.and_eq_true, decide_eq_true_eq] at hs
      obtain ⟨u, rfl, ru⟩ := vals1 r
      cases ru
      exact call_sorted hu hK I f h1 r1 hs.1 fun q ws nq rw' => post_lst f p rw' q nq
    · exact p.elim
  · obtain ⟨x, rfl, bx⟩ := pr1 pr
    obtain ⟨a, vs, rfl, h1, r1⟩ := bx.lst f
    exact call_list_of pins s σ H _ us Q I r ⟨a, vs, rfl, .inl (sqL_of h1), post_lst f p r1⟩
  · obtain ⟨x, rfl, bx⟩ := pr1 pr
    obtain ⟨a, vs, rfl, h1, _, r1⟩ := bx.tup f
    exact call_list_of pins s σ H _ us Q I r ⟨a, vs, rfl, .inr (.of h1), post_lst f p r1⟩
  · obtain ⟨x, rfl, bx⟩ := pr1 pr
    obtain ⟨a, vs, rfl, h1, r1⟩ := bx.ctp
    exact call_list_of pins s σ H _ us Q I r ⟨a, vs, rfl, .inr (hK ▸ sqT_of h1), post_lst f p r1⟩
  · rename_i t ks vs
    obtain ⟨x, rfl, bx⟩ := pr1 pr
    cases t with
    | false =>
      obtain ⟨a, kvs, rfl, h1, r1⟩ := bx.dK f
      obtain ⟨u, rfl, ru⟩ := vals1 r
      cases ru
      exact d_listK hc I h1 (post_lst f p r1.keys)
    | true =>
      obtain ⟨a, kvs, rfl, h1, r1⟩ := bx.dT f
      refine call_list_dT hc pins s σ H _ us Q I r ⟨a, kvs, rfl, h1, fun q bs nq hb => ?_⟩
      have fx := addT_fx (bs := bs) f
      have hz : ∀ (k : List Key) (b : Addr), H b = some (.tup (k.map kV)) → (k.map kV).length ≤ sizeLine := fun k b hb' => (I.hok b _ hb').1
      exact post_lst fx.fh (p.go (.refl H) fx) (keysT_rep hz r1 hb fun _ h => h) q nq
  · obtain ⟨x, rfl, bx⟩ := pr1 pr
    obtain ⟨a, vs, rfl, h1, r1⟩ := bx.lst f
    have z := (lst_at I h1).1
    exact call_tuple_of pins s σ H _ us Q I r ⟨a, vs, rfl, .inl ⟨sqL_of h1, post_tup f p r1 z⟩⟩
  · obtain ⟨x, rfl, bx⟩ := pr1 pr
    obtain ⟨a, vs, rfl, h1, z1, r1⟩ := bx.tup f
    refine call_tuple_of pins s σ H _ us Q I r ⟨a, vs, rfl, .inr ⟨.of h1, ?_⟩⟩
    rcases bx with hb | ⟨_, _, hb⟩
    · exact post_sh f p hb
    · exact hb.elim
  · obtain ⟨x, rfl, bx⟩ := pr1 pr
    cases bx.int
    exact call_int1 pins s σ H _ us Q I r (.inl ⟨_, rfl, post_sh f p (.int _)⟩)
  · rename_i c
    obtain ⟨x, rfl, bx⟩ := pr1 pr
    cases bx.bl
    exact call_int1 pins s σ H _ us Q I r (.inr ⟨_, rfl, post_sh f p (.int _)⟩)
  · rename_i z
    obtain ⟨x, rfl, bx⟩ := pr1 pr
    obtain ⟨rfl, hl⟩ := bx.str
    split at p
    · rename_i hs
      simp only [Bool.and_eq_true, decide_eq_true_eq] at hs
      refine call_int_str pins s σ H _ us Q I r ⟨_, (readN z : Int), rfl, ?_, ?_, post_sh f p (.int _)⟩
      · exact SX.int_S (by simpa [isFig] using hs.1.1) (fun e => by rw [e] at hs; simp at hs) (by omega)
      · rw [str_len]
        omega
    · exact p.elim
  · rename_i i
    obtain ⟨x, rfl, bx⟩ := pr1 pr
    cases bx.int
    split at p
    · rename_i hs
      simp only [Bool.and_eq_true, decide_eq_true_eq] at hs
      have h2 := small_of hs.2
      refine call_str_int pins s σ H _ us Q I r ⟨_, rfl, ?_, ?_⟩
      · have h3 : i.natAbs < 2 ^ 64 := by omega
        have h4 : i.natAbs.log2 < 64 := by
          by_cases h0 : i.natAbs = 0
          · rw [h0]; decide
          · exact (Nat.log2_lt h0).mpr h3
        omega
      · have e : i = ((i.toNat : Nat) : Int) := (Int.toNat_of_nonneg hs.1).symm
        have e2 : (toString i : String) = toString ((i.toNat : Nat) : Int) := by rw [← e]
        show Q (.str (Str.ofString (toString i))) H
        rw [e2, num_text]
        refine post_sh f p (.str _ ?_)
        have h5 : i.toNat < 10 ^ 20 := by omega
        have h6 := TL.numL_len (n := i.toNat) (k := 20) (by omega) h5
        exact Nat.le_trans h6 (by decide)
    · exact p.elim
  · obtain ⟨x, rfl, bx⟩ := pr1 pr
    obtain ⟨rfl, hl⟩ := bx.str
    exact SkE.call_str_str pins s σ H _ us Q I r ⟨_, rfl, post_sh f p (.str _ hl)⟩
  · rename_i v t
    obtain ⟨x, y, rfl, bx, by'⟩ := pr2 pr
    cases e : isTy v t with
    | none => rw [e] at p; exact p.elim
    | some c =>
      rw [e] at p
      obtain ⟨h1, h2⟩ := isTy_one e
      rcases by' with by' | ⟨_, _, by'⟩
      · cases by'
        exact call_isi pins s σ H _ us Q I r ⟨x, _, _, _, c, rfl, .ty _, hK ▸ tyx_of f bx h1, kit_ty h2, ofB_some f p⟩
      · exact by'.elim
  · rename_i v t u
    obtain ⟨x, y, rfl, bx, by'⟩ := pr2 pr
    obtain ⟨a, vs, rfl, ha, _, ra⟩ := by'.tup f
    cases ra with
    | cons c1 ra =>
      cases ra with
      | cons c2 ra =>
        cases ra
        cases c1
        cases c2
        cases e : isTy v t with
        | none => simp only [e] at p; exact p.elim
        | some c =>
          cases e' : isTy v u with
          | none => simp only [e, e'] at p; exact p.elim
          | some c' =>
            simp only [e, e'] at p
            obtain ⟨h1, h2⟩ := isTy_one e
            obtain ⟨_, h3⟩ := isTy_one e'
            refine call_isiT pins s σ H _ us Q I r ⟨x, a, _, _, _, c || c', rfl, ha, .cons (.ty _) (.cons (.ty _) .nil), hK ▸ tyx_of f bx h1, ?_, post_sh f p (.bl _)⟩
            refine kitAny_cons (kit_ty h2) (fun hb => ?_) (fun hb => by rw [hb]; rfl)
            refine kitAny_cons (kit_ty h3) (fun hb' => ?_) (fun hb' => by rw [hb']; simp)
            rw [hb, hb']
            exact kitAny_nil
  · obtain ⟨x, y, rfl, bx, by'⟩ := pr2 pr
    cases bx.int; cases by'.int
    exact call_min2 hc pins s σ H _ us Q I r ⟨_, _, rfl, post_sh f p (.int _)⟩
  · obtain ⟨x, y, rfl, bx, by'⟩ := pr2 pr
    cases bx.int; cases by'.int
    exact call_max2 hc pins s σ H _ us Q I r ⟨_, _, rfl, post_sh f p (.int _)⟩
  · rename_i ys
    obtain ⟨x, rfl, bx⟩ := pr1 pr
    obtain ⟨a, vs, rfl, h1, r1⟩ := bx.lst f
    cases e : intsOf ys with
    | none => simp only [e] at p; exact p.elim
    | some is =>
      simp only [e] at p
      have e2 := ints_of r1 e
      subst e2
      exact cr_sum hc pins s σ H _ us Q I r ⟨a, is, rfl, sqL_of h1, post_sh f p (.int _)⟩
  · exact p.elim
end
end EV
set_option Elab.async false
set_option linter.all false
set_option maxRecDepth 100000
set_option maxHeartbeats 2000000
/-! EVg: methods of texts, by values. -/
namespace EV
open PySem PySem.Spec PyProof.Rows L2
def MF.id : MF → String
  | .join => "str.join" | .split => "str.split" | .startswith => "str.startswith" | .replace1 => "str.replace" | .index => "str.index" | .get => "dict.get" | .items => "dict.items"
def rMth (g : Gh) (m : MF) : V → List V → Hp → VK → Prop := fun x xs H Q => ∃ (W : WX) (σ : L2.St) (F : Hp) (px : PV) (ps : List PV), FLe F H ∧ RepB g F H x px ∧ Paired (RepB g F H) xs ps ∧ PostE g W σ F H (mthP m px ps) Q
theorem pre_eq : ∀ a b : List Nat, EV.pre a b = TL.pre a b
  | [], b => by simp [EV.pre, TL.pre]
  | _ :: _, [] => by simp [EV.pre, TL.pre]
  | a :: r, b :: t => by
    have ih := pre_eq r t
    unfold TL.pre at ih ⊢
    simp only [EV.pre, List.length_cons, List.take_succ_cons]
    rw [ih]
    by_cases h : a = b
    · subst h
      simp
    · have h2 : ¬ b = a := fun e => h e.symm
      have h3 : (a == b) = false := beq_eq_false_iff_ne.mpr h
      have h4 : (b :: t.take r.length == a :: r) = false := beq_eq_false_iff_ne.mpr fun e => h2 (List.cons.inj e).1
      rw [h3, h4]
      rfl
theorem splitOn_ne (c : Nat) : ∀ l : List Nat, splitOn c l ≠ []
  | [] => by simp [splitOn]
  | a :: r => by
    unfold splitOn
    split
    · simp
    · split <;> simp
theorem spl_one (c : Nat) : ∀ (l acc : List Nat), TL.spl [c] 0 acc l = (match splitOn c l with | w :: ws => (acc ++ w) :: ws | [] => [])
  | [], acc => by simp [splitOn, TL.spl]
  | a :: r, acc => by
    have hp : TL.pre [c] (a :: r) = (a == c) := by
      unfold TL.pre
      simp only [List.length_cons, List.length_nil, List.take_succ_cons, List.take_zero]
      by_cases h : a = c
      · subst h; simp
      · simp [h]
    unfold TL.spl splitOn
    rw [hp]
    by_cases h : a = c
    · subst h
      simp only [beq_self_eq_true, if_true, List.length_cons, List.length_nil]
      have ih := spl_one a r []
      rw [show (0 + 1 - 1) = 0 from rfl, ih]
      cases e : splitOn a r with
      | nil => exact absurd e (splitOn_ne _ _)
      | cons w ws => simp
    · have hb : (a == c) = false := beq_eq_false_iff_ne.mpr h
      rw [hb, if_neg Bool.false_ne_true, if_neg h, spl_one c r (acc ++ [a])]
      cases e : splitOn c r with
      | nil => exact absurd e (splitOn_ne _ _)
      | cons w ws => simp
theorem splitOn_len (c : Nat) : ∀ (l : List Nat), ∀ w ∈ splitOn c l, w.length ≤ l.length
  | [], w, h => by
    simp [splitOn] at h
    subst h
    simp
  | a :: r, w, h => by
    unfold splitOn at h
    split at h
    · rcases List.mem_cons.mp h with e | h
      · subst e; simp
      · have := splitOn_len c r w h
        simp only [List.length_cons]
        omega
    · split at h
      · simp at h
        subst h
        simp
      · rename_i w0 ws e
        rcases List.mem_cons.mp h with e2 | h
        · subst e2
          have := splitOn_len c r w0 (by rw [e]; simp)
          simp only [List.length_cons]
          omega
        · have := splitOn_len c r w (by rw [e]; simp [h])
          simp only [List.length_cons]
          omega
theorem splitOn_num (c : Nat) : ∀ (l : List Nat), (splitOn c l).length ≤ l.length + 1
  | [] => by simp [splitOn]
  | a :: r => by
    have ih := splitOn_num c r
    unfold splitOn
    split
    · simp only [List.length_cons]
      omega
    · split
      · simp
      · rename_i w ws e
        rw [e] at ih
        simp only [List.length_cons] at ih ⊢
        omega
theorem joinS_eq (sep : List Nat) : ∀ ps : List (List Nat), joinS sep ps = TL.joinL sep ps
  | [] => rfl
  | [_] => rfl
  | x :: y :: r => by
    unfold joinS TL.joinL
    rw [joinS_eq sep (y :: r), List.append_assoc]
theorem str_tl (a : List Nat) : TL.tl (⟨a.toArray⟩ : Str) = a := by
  show a.toArray.toList = a
  simp
theorem split_eq {a : List Nat} {c : Nat} (hc : c < 128) : Txt.split ⟨a.toArray⟩ ⟨#[c]⟩ = (splitOn c a).map fun w => (⟨w.toArray⟩ : Str) := by
  have h := TL.split_spl ⟨a.toArray⟩ ⟨#[c]⟩ (by show [c] ≠ []; simp) (TL.kind_ok (by simp; omega))
  have e1 : TL.tl (⟨#[c]⟩ : Str) = [c] := rfl
  rw [e1, str_tl, spl_one] at h
  have h2 : (Txt.split ⟨a.toArray⟩ ⟨#[c]⟩).map TL.tl = splitOn c a := by
    rw [h]
    cases e : splitOn c a with
    | nil => rfl
    | cons w ws => simp
  have h3 : ∀ zs : List Str, (zs.map TL.tl).map (fun w => (⟨w.toArray⟩ : Str)) = zs := by
    intro zs
    rw [List.map_map]
    conv => rhs; rw [← List.map_id zs]
    refine List.map_congr_left fun z _ => ?_
    cases z
    simp [TL.tl]
  rw [← h2, h3]
section
variable {X : Cx} {g : Gh}
theorem strs_rep {F : Hp} : ∀ {ws : List (List Nat)}, (∀ w ∈ ws, w.length ≤ SL) → RepVs g F ((ws.map fun w => (⟨w.toArray⟩ : Str)).map V.str) (ws.map PV.str)
  | [], _ => .nil
  | w :: ws, h => .cons (.str w (h w (by simp))) (strs_rep fun v hv => h v (by simp [hv]))
theorem lens_eq (ys : List (List Nat)) : ((ys.map fun s => (⟨s.toArray⟩ : Str)).map (·.length)) = ys.map (·.length) := by
  rw [List.map_map]
  refine List.map_congr_left fun z _ => ?_
  exact str_len z
theorem mt_mth : ∀ m : MF, m ≠ .replace1 → m ≠ .index → MtR X m.id (rMth g m) := by
  intro m hm1 hm2 pins s σ H x xs v us Q I rx rs h
  obtain ⟨W, σ', F, px, ps, f, bx, pr, p⟩ := h
  unfold mthP at p
  split at p
  · rename_i z ys
    obtain ⟨rfl, hl⟩ := bx.str
    obtain ⟨y, rfl, by'⟩ := pr1 pr
    obtain ⟨a, vs, rfl, h1, r1⟩ := by'.lst f
    cases e : strsOf ys with
    | none => simp only [e] at p; exact p.elim
    | some zs =>
      simp only [e] at p
      have e2 := r1.strs e
      subst e2
      split at p
      · rename_i hz
        refine mt_join pins s σ H _ _ v us Q I rx rs ⟨_, a, _, rfl, rfl, .inl (sqL_of h1), ?_, ?_⟩
        · rw [lens_eq, List.length_map, str_len]
          exact Nat.le_trans hz (by decide)
        · have e3 : Txt.join ⟨z.toArray⟩ (zs.map fun s => (⟨s.toArray⟩ : Str)) = ⟨(joinS z zs).toArray⟩ := by
            refine TL.ext_tl ?_
            rw [TL.join_eq, TL.tl_join, str_tl, str_tl, joinS_eq, List.map_map]
            congr 1
            conv => rhs; rw [← List.map_id zs]
            refine List.map_congr_left fun z _ => ?_
            exact str_tl z
          rw [e3]
          refine post_sh f p (.str _ ?_)
          refine Nat.le_trans ?_ hz
          clear p hz rs rx I e e3 h1 r1
          induction zs with
          | nil => simp [joinS]
          | cons x r ih =>
            cases r with
            | nil => simp [joinS]
            | cons y r =>
              unfold joinS
              simp only [List.length_append, List.map_cons, List.sum_cons, List.length_cons] at ih ⊢
              rw [Nat.succ_mul]
              omega
      · exact p.elim
  · rename_i z c
    obtain ⟨rfl, hl⟩ := bx.str
    obtain ⟨y, rfl, by'⟩ := pr1 pr
    obtain ⟨rfl, _⟩ := by'.str
    split at p
    · exact p.elim
    · rename_i hc
      refine mt_split pins s σ H _ _ v us Q I rx rs ⟨_, _, rfl, rfl, rfl, ?_, ?_⟩
      · rw [str_len]
        have : SL + 2 ≤ sizeLine := by decide
        omega
      · intro q nq
        have e := split_eq (a := z) (c := c) (by omega)
        rw [e]
        exact post_lst f p (strs_rep fun w hw => Nat.le_trans (splitOn_len c z w hw) hl) q nq
  · rename_i z t
    obtain ⟨rfl, hl⟩ := bx.str
    obtain ⟨y, rfl, by'⟩ := pr1 pr
    obtain ⟨rfl, _⟩ := by'.str
    refine mt_startswith pins s σ H _ _ v us Q I rx rs ⟨_, _, rfl, rfl, ?_⟩
    have e : Txt.startswith ⟨z.toArray⟩ ⟨t.toArray⟩ = EV.pre t z := by
      rw [pre_eq]
      unfold Txt.startswith
      have ez : ∀ l : List Nat, (⟨l.toArray⟩ : Str).cps.toList = l := str_tl
      rw [PySem.StrLaws.subAt_eq, ez, ez, List.drop_zero, str_len, str_len, Nat.zero_add]
      by_cases hlt : t.length ≤ z.length
      · rw [decide_eq_true hlt, Bool.true_and]
        rfl
      · rw [decide_eq_false hlt, Bool.false_and]
        unfold TL.pre
        symm
        refine beq_eq_false_iff_ne.mpr fun e => ?_
        have := congrArg List.length e
        rw [List.length_take] at this
        omega
    rw [e]
    exact post_sh f p (.bl _)
  · exact absurd rfl hm1
  · exact absurd rfl hm2
  · exact p.elim
end
end EV
set_option Elab.async false
set_option linter.all false
set_option maxRecDepth 100000
set_option maxHeartbeats 2000000
/-! EVh: expressions: the layer's terms, read by the evaluator's results. -/
namespace EV
open PySem PySem.Spec PyProof.Rows L2

section
variable {g : Gh} {xa : Option (Addr × Value × Option Addr)} {W : WX} {σ : L2.St} {F0 H0 F H : Hp} {env : Env} {Q Q1 : VK}
/-- a part, then the rest -/
theorem rd_bind {ma : Env → Rs} {k : Md → PV → Rs} (R : Rel g xa F0 H0 F σ H env) (p : PostE g W σ F H ((ma env).bind k) Q)
    (h : ∀ m x v F1 H1, ma env = .ok m x → Ext H H1 → Fx F H F1 H1 → VRep g m H F1 H1 v x → PostE g W σ F1 H1 (k m x) Q → Q1 v H1) : rd g xa W ma σ H Q1 := by
  refine ⟨F0, H0, F, env, R, ?_⟩
  cases e : ma env with
  | ok m x =>
    rw [e] at p
    intro v F1 H1 ex fx vr
    exact h m x v F1 H1 e ex fx vr (p.go ex fx)
  | ex x =>
    rw [e] at p
    exact p
  | bad =>
    rw [e] at p
    exact p.elim
theorem rdL_bind {ma : Env → Rl} {k : Bool → List PV → Rs} {Q2 : List V → Hp → Prop} (R : Rel g xa F0 H0 F σ H env) (p : PostE g W σ F H ((ma env).bind k) Q)
    (h : ∀ n xs vs F1 H1, ma env = .ok n xs → Ext H H1 → Fx F H F1 H1 → (if n = true then RepVs g F1 vs xs else Paired (RepB g F1 H1) vs xs) → PostE g W σ F1 H1 (k n xs) Q → Q2 vs H1) : rdL g xa W ma σ H Q2 := by
  refine ⟨F0, H0, F, env, R, ?_⟩
  cases e : ma env with
  | ok m x =>
    rw [e] at p
    intro v F1 H1 ex fx vr
    exact h m x v F1 H1 e ex fx vr (p.go ex fx)
  | ex x =>
    rw [e] at p
    exact p
  | bad =>
    rw [e] at p
    exact p.elim
/-- a test, then one of two ways -/
theorem rdT_cond {mc : Env → Rs} {y n : Rs} {Q2 : Bool → Hp → Prop} (R : Rel g xa F0 H0 F σ H env) (p : PostE g W σ F H ((mc env).cond y n) Q)
    (h : ∀ b F1 H1, Ext H H1 → Fx F H F1 H1 → PostE g W σ F1 H1 (if b = true then y else n) Q → Q2 b H1) : rdT g xa W mc σ H Q2 := by
  refine ⟨F0, H0, F, env, R, ?_⟩
  cases e : mc env with
  | ok m x =>
    rw [e] at p
    cases x with
    | bl b =>
      intro v F1 H1 ex fx vr
      refine ⟨b, vr.b.bl, h b F1 H1 ex fx ?_⟩
      cases b
      · exact PostE.go ex fx p
      · exact PostE.go ex fx p
    | _ => exact p.elim
  | ex x =>
    rw [e] at p
    exact p
  | bad =>
    rw [e] at p
    exact p.elim
theorem rd_cond {mc : Env → Rs} {y n : Rs} (R : Rel g xa F0 H0 F σ H env) (p : PostE g W σ F H ((mc env).cond y n) Q)
    (h : ∀ b F1 H1, Ext H H1 → Fx F H F1 H1 → PostE g W σ F1 H1 (if b = true then y else n) Q → Q1 (.bl b) H1) : rd g xa W mc σ H Q1 := by
  refine ⟨F0, H0, F, env, R, ?_⟩
  cases e : mc env with
  | ok m x =>
    rw [e] at p
    cases x with
    | bl b =>
      intro v F1 H1 ex fx vr
      rw [vr.b.bl]
      refine h b F1 H1 ex fx ?_
      cases b
      · exact PostE.go ex fx p
      · exact PostE.go ex fx p
    | _ => exact p.elim
  | ex x =>
    rw [e] at p
    exact p
  | bad =>
    rw [e] at p
    exact p.elim
theorem paired_b {F1 H1 : Hp} : ∀ {vs : List V} {xs : List PV}, RepVs g F1 vs xs → Paired (RepB g F1 H1) vs xs
  | _, _, .nil => .nil
  | _, _, .cons h r => .cons (.inl h) (paired_b r)
theorem lrep_b {n : Bool} {vs : List V} {xs : List PV} (h : if n = true then RepVs g F vs xs else Paired (RepB g F H) vs xs) : Paired (RepB g F H) vs xs := by
  cases n with
  | true => exact paired_b h
  | false => exact h
theorem truthy_of {K : PySem.W.Frag} (hK : g.K = K) {v : V} {x : PV} {b : Bool} (f : FLe F H) (h : RepB g F H v x) (t : tvP x = some b) : TruV K v H b := by
  subst hK
  cases x with
  | non => cases h.non; simp [tvP] at t; exact t.symm ▸ rfl
  | bl c => cases h.bl; simp [tvP] at t; exact t.symm
  | int i => cases h.int; simp [tvP] at t; exact t.symm
  | str s =>
    obtain ⟨rfl, hl⟩ := h.str
    simp only [tvP, Option.some.injEq] at t
    refine ⟨?_, ?_⟩
    · rw [str_len]
      exact Nat.le_trans hl SL_line
    · rw [str_len, ← t]
      cases s with
      | nil => rfl
      | cons c r =>
        symm
        exact bne_iff_ne.mpr (by simp; omega)
  | lst xs =>
    obtain ⟨a, vs, rfl, h1, r⟩ := h.lst f
    simp only [tvP, Option.some.injEq] at t
    refine .inl ⟨vs, sqL_of h1, ?_⟩
    rw [← t]
    cases r <;> rfl
  | tup xs =>
    obtain ⟨a, vs, rfl, h1, _, r⟩ := h.tup f
    simp only [tvP, Option.some.injEq] at t
    refine .inr (.inl ⟨vs, .of h1, ?_⟩)
    rw [← t]
    cases r <;> rfl
  | _ => simp [tvP] at t
end
/-- is it one of the expressions that the layer's side conditions take as they stand -/
def plE : Expr → Bool
  | .Starred _ _ => false
  | .Slice _ _ _ _ => false
  | _ => true
theorem star_pl {e : Expr} {es : List Expr} {env : PySem.Env} (h : plE e = true) : starEach (e :: es) env = (false, eval e env) :: starEach es env := by
  cases e <;> first | rfl | (simp [plE] at h)
theorem plix {b : Expr} (h : plE b = true) : PlainIx b := by
  intro o i
  cases b <;> first | rfl | (simp [plE] at h)
/-- is the expression's truth its value's truth -/
def gnE : Expr → Bool
  | .UnaryOp .Not _ _ => false
  | .BoolOp _ _ _ => false
  | .IfExp _ _ _ _ => false
  | .Compare _ _ _ _ => false
  | _ => true
theorem gn_true {e : Expr} {env : PySem.Env} (h : gnE e = true) : ∀ whole, isTrue e env whole = (do let v ← whole; standAt e.pos; holding [v] (PySem.truthy v)) := by
  intro whole
  cases e with
  | UnaryOp op a p => cases op <;> first | rfl | (simp [gnE] at h)
  | BoolOp _ _ _ => simp [gnE] at h
  | IfExp _ _ _ _ => simp [gnE] at h
  | Compare _ _ _ _ => simp [gnE] at h
  | _ => rfl

/-- what is asked of the context -/
structure XOk (g : Gh) (X : Cx) : Prop where
  K : g.K = X.K
  un : X.A.units + 160 < cLine
  nd : X.N.Nodup

section
variable {g : Gh} {xa : Option (Addr × Value × Option Addr)} {W : WX} {X : Cx} {e a b c : Expr} {ma mb mc : PV → Rs} {pos : Pos}
/-- a value's rule gives the test's -/
theorem vt_gn {m : Env → Rs} (hx : XOk g X) (h : PE X e (rd g xa W m)) (hg : gnE e = true) : PT X e (rdT g xa W fun env => tru (m env)) := by
  refine (pt_truth h (gn_true hg)).imp fun σ H Q ⟨F0, H0, F, env, R, p⟩ => ?_
  refine ⟨F0, H0, F, env, R, ?_⟩
  cases em : m env with
  | ok md x =>
    simp only [em, tru] at p
    intro v F1 H1 ex fx vr
    cases et : tvP x with
    | none => rw [et] at p; exact p.elim
    | some k =>
      rw [et] at p
      refine ⟨k, truthy_of hx.K fx.fh vr.b et, ?_⟩
      obtain ⟨b', e1, q⟩ := ofB_some fx.fh (p.go ex fx)
      cases e1
      exact q
  | ex x => simp only [em, tru] at p; exact p
  | bad => simp only [em, tru] at p; exact p.elim
theorem se_loc {i : Nat} {x : Str} (hN : X.N[i]? = some x) (hv : Vis X.env.scope x) (hd : (x == ("__debug__" : Str)) = false) (hcd : (x == ("__classdict__" : Str)) = false) (EC : EV.EC) : PE X (.Name x pos) (rd g xa W fun env => ev EC false (.loc i) env) := by
  refine (pe_var hN hv hd hcd).imp fun σ H Q ⟨F0, H0, F, env, R, p⟩ => ?_
  have hs := R.sl i
  simp only [ev] at p
  unfold SlR at hs
  split at hs
  · rename_i v e1
    rw [e1] at p
    obtain ⟨u, h1, h2⟩ := hs
    exact ⟨u, h1, p u F H (.refl H) (.refl R.fx.fh) h2⟩
  · rename_i v e1
    rw [e1] at p
    obtain ⟨q, h1, h2, h3, h4⟩ := hs
    exact ⟨_, h1, p _ F H (.refl H) (.refl R.fx.fh) (.inr ⟨q, rfl, h4⟩)⟩
  · rename_i e1
    rw [e1] at p
    exact p.elim
  · rename_i h1 h2 h3
    cases e : env[i]? with
    | none => rw [e] at p; exact p.elim
    | some sl =>
      cases sl with
      | un => rw [e] at p; exact p.elim
      | sh v => exact absurd e (h1 v)
      | ow v => exact absurd e (h2 v)
      | xc c f => exact absurd e (h3 c f)
theorem se_cst {v : V} {x : PV} (h : PE X e (tC v)) (r : ∀ F : Hp, RepV g F v x) : PE X e (rd g xa W fun _ => .ok .sh x) :=
  h.imp fun σ H Q ⟨F0, H0, F, env, R, p⟩ => p v F H (.refl H) (.refl R.fx.fh) (r F)
theorem se_neg {ma : Env → Rs} (ha : PE X a (rd g xa W ma)) : PE X (.UnaryOp .USub a pos) (rd g xa W fun env => (ma env).bind fun _ x => negP x) := by
  refine (pe_un un_neg ha).imp fun σ H Q ⟨F0, H0, F, env, R, p⟩ => ?_
  refine rd_bind R p fun m x v F1 H1 e1 ex fx vr p1 => ?_
  cases x with
  | int i =>
    have := vr.b.int
    subst this
    exact ⟨i, rfl, post_sh fx.fh p1 (.int _)⟩
  | _ => exact p1.elim
theorem se_nt {ma : Env → Rs} (hx : XOk g X) (ha : PE X a (rd g xa W ma)) : PE X (.UnaryOp .Not a pos) (rd g xa W fun env => (tru (ma env)).cond (.ok .sh (.bl false)) (.ok .sh (.bl true))) := by
  refine (pe_notT ha).imp fun σ H Q ⟨F0, H0, F, env, R, p⟩ => ?_
  refine ⟨F0, H0, F, env, R, ?_⟩
  cases em : ma env with
  | ok md x =>
    simp only [em, tru] at p
    intro v F1 H1 ex fx vr
    cases et : tvP x with
    | none => rw [et] at p; exact p.elim
    | some k =>
      rw [et] at p
      refine ⟨k, truthy_of hx.K fx.fh vr.b et, ?_⟩
      cases k
      · exact post_sh fx.fh (PostE.go ex fx p) (.bl true)
      · exact post_sh fx.fh (PostE.go ex fx p) (.bl false)
  | ex x => simp only [em, tru] at p; exact p
  | bad => simp only [em, tru] at p; exact p.elim
theorem st_nt {ma : Env → Rs} (ha : PT X a (rdT g xa W ma)) : PT X (.UnaryOp .Not a pos) (rdT g xa W fun env => (ma env).cond (.ok .sh (.bl false)) (.ok .sh (.bl true))) := by
  refine (pt_not ha).imp fun σ H Q ⟨F0, H0, F, env, R, p⟩ => ?_
  refine rdT_cond R p fun b F1 H1 ex fx p1 => ?_
  cases b
  · obtain ⟨b', e1, q⟩ := post_sh fx.fh p1 (.bl true)
    cases e1
    exact q
  · obtain ⟨b', e1, q⟩ := post_sh fx.fh p1 (.bl false)
    cases e1
    exact q
theorem se_bin {ma mb : Env → Rs} (hx : XOk g X) (o : BO) (ha : PE X a (rd g xa W ma)) (hb : PE X b (rd g xa W mb)) : PE X (.BinOp a o.op b pos) (rd g xa W fun env => (ma env).bind fun _ x => (mb env).bind fun _ y => binP o x y) := by
  refine (pe_op (op_bin (by have := hx.un; omega) hx.K o) ha hb).imp fun σ H Q ⟨F0, H0, F, env, R, p⟩ => ?_
  refine rd_bind R p fun m x v F1 H1 e1 ex fx vr p1 => rd_bind (R.mono ex fx) p1 fun m2 y w F2 H2 e2 ex2 fx2 wr p2 => ?_
  exact ⟨W, σ, F2, x, y, fx2.fh, vr.b.mono ex2 fx2.ff, wr.b, p2⟩
theorem se_cmp {ma mb : Env → Rs} (hx : XOk g X) (o : CO) (hm : behindInMarks o.op b = false) (ha : PE X a (rd g xa W ma)) (hb : PE X b (rd g xa W mb)) : PE X (.Compare a [o.op] [b] pos) (rd g xa W fun env => (ma env).bind fun _ x => (mb env).bind fun _ y => cmpR o x y) := by
  refine (pe_cmpR (op_cmp (by have := hx.un; omega) hx.K o) ha hb hm).imp fun σ H Q ⟨F0, H0, F, env, R, p⟩ => ?_
  refine rd_bind R p fun m x v F1 H1 e1 ex fx vr p1 => rd_bind (R.mono ex fx) p1 fun m2 y w F2 H2 e2 ex2 fx2 wr p2 => ?_
  exact ⟨W, σ, F2, x, y, fx2.fh, vr.b.mono ex2 fx2.ff, wr.b, p2⟩
theorem st_cmp {ma mb : Env → Rs} (hx : XOk g X) (o : CO) (hm : behindInMarks o.op b = false) (ha : PE X a (rd g xa W ma)) (hb : PE X b (rd g xa W mb)) : PT X (.Compare a [o.op] [b] pos) (rdT g xa W fun env => (ma env).bind fun _ x => (mb env).bind fun _ y => cmpR o x y) := by
  refine (pt_cmpR (op_cmp (by have := hx.un; omega) hx.K o) ha hb hm).imp fun σ H Q ⟨F0, H0, F, env, R, p⟩ => ?_
  show tOp _ _ _ σ H _
  refine rd_bind R p fun m x v F1 H1 e1 ex fx vr p1 => rd_bind (R.mono ex fx) p1 fun m2 y w F2 H2 e2 ex2 fx2 wr p2 => ?_
  exact ⟨W, σ, F2, x, y, fx2.fh, vr.b.mono ex2 fx2.ff, wr.b, p2⟩
theorem chn_red {ma mb mc : Env → Rs} {o o' : CO} {σ : L2.St} {H : Hp} {Q : VK} (h : rd g xa W (fun env => (ma env).bind fun _ x => (mb env).bind fun _ y => chnR o x y ((mc env).bind fun _ z => cmpR o' y z)) σ H Q) :
    tChain (rCmp g o) (rCmp g o') (rd g xa W ma) (rd g xa W mb) (rd g xa W mc) σ H Q := by
  obtain ⟨F0, H0, F, env, R, p⟩ := h
  refine rd_bind R p fun m x v F1 H1 e1 ex fx vr p1 => rd_bind (R.mono ex fx) p1 fun m2 y w F2 H2 e2 ex2 fx2 wr p2 => ?_
  have R2 := (R.mono ex fx).mono ex2 fx2
  refine ⟨W, σ, F2, x, y, fx2.fh, vr.b.mono ex2 fx2.ff, wr.b, ?_⟩
  unfold chnR at p2
  cases ec : cmpP o x y with
  | none => rw [ec] at p2; exact p2.elim
  | some k =>
    rw [ec] at p2
    intro z F3 H3 ex3 fx3 zr
    have ez := zr.b.bl
    refine ⟨k, ez, ?_⟩
    cases k with
    | false => exact post_sh fx3.fh (PostE.go ex3 fx3 p2) (.bl false)
    | true =>
      rw [if_pos rfl]
      refine rd_bind (R2.mono ex3 fx3) (PostE.go ex3 fx3 p2) fun m4 x4 v4 F4 H4 e4 ex4 fx4 vr4 p4 => ?_
      exact ⟨W, σ, F4, y, x4, fx4.fh, (wr.b.mono ex3 fx3.ff).mono ex4 fx4.ff, vr4.b, p4⟩
theorem se_chn {ma mb mc : Env → Rs} (hx : XOk g X) (o o' : CO) (hm' : behindInMarks o'.op c = false) (ha : PE X a (rd g xa W ma)) (hb : PE X b (rd g xa W mb)) (hc : PE X c (rd g xa W mc))
    (hp : PE X (.Compare a [o.op, o'.op] [b, c] pos) (tChain (rCmp g o) (rCmp g o') (rd g xa W ma) (rd g xa W mb) (rd g xa W mc))) :
    PE X (.Compare a [o.op, o'.op] [b, c] pos) (rd g xa W fun env => (ma env).bind fun _ x => (mb env).bind fun _ y => chnR o x y ((mc env).bind fun _ z => cmpR o' y z)) := hp.imp fun _ _ _ h => chn_red h
theorem st_chn {ma mb mc : Env → Rs} {o o' : CO} (hp : PT X e (tTest (tChain (rCmp g o) (rCmp g o') (rd g xa W ma) (rd g xa W mb) (rd g xa W mc)))) :
    PT X e (rdT g xa W fun env => (ma env).bind fun _ x => (mb env).bind fun _ y => chnR o x y ((mc env).bind fun _ z => cmpR o' y z)) := hp.imp fun σ H Q h => chn_red h
theorem se_and {ma mb : Env → Rs} {rest : List Expr} (ha : PE X a (rd g xa W ma)) (hb : PE X (.BoolOp .And (b :: rest) pos) (rd g xa W mb)) : PE X (.BoolOp .And (a :: b :: rest) pos) (rd g xa W fun env => (ma env).cond (mb env) (.ok .sh (.bl false))) := by
  refine (pe_and ha hb).imp fun σ H Q ⟨F0, H0, F, env, R, p⟩ => ?_
  refine rd_cond R p fun b F1 H1 ex fx p1 => ⟨b, rfl, ?_⟩
  cases b with
  | true => exact ⟨F0, H0, F1, env, R.mono ex fx, p1⟩
  | false => exact post_sh fx.fh p1 (.bl false)
theorem se_or {ma mb : Env → Rs} {rest : List Expr} (ha : PE X a (rd g xa W ma)) (hb : PE X (.BoolOp .Or (b :: rest) pos) (rd g xa W mb)) : PE X (.BoolOp .Or (a :: b :: rest) pos) (rd g xa W fun env => (ma env).cond (.ok .sh (.bl true)) (mb env)) := by
  refine (pe_or ha hb).imp fun σ H Q ⟨F0, H0, F, env, R, p⟩ => ?_
  refine rd_cond R p fun b F1 H1 ex fx p1 => ⟨b, rfl, ?_⟩
  cases b with
  | false => exact ⟨F0, H0, F1, env, R.mono ex fx, p1⟩
  | true => exact post_sh fx.fh p1 (.bl true)
theorem sw_and {ma mb : Env → Rs} {rest : List Expr} (ha : PT X a (rdT g xa W ma)) (hb : PW X (.BoolOp .And (b :: rest) pos) (rdT g xa W mb)) : PW X (.BoolOp .And (a :: b :: rest) pos) (rdT g xa W fun env => (ma env).cond (mb env) (.ok .sh (.bl false))) := by
  refine (pw_and ha hb).imp fun σ H Q ⟨F0, H0, F, env, R, p⟩ => ?_
  refine rdT_cond R p fun b F1 H1 ex fx p1 => ?_
  cases b with
  | true => exact ⟨F0, H0, F1, env, R.mono ex fx, p1⟩
  | false =>
    obtain ⟨b', e1, q⟩ := post_sh fx.fh p1 (.bl false)
    cases e1
    exact q
theorem sw_or {ma mb : Env → Rs} {rest : List Expr} (ha : PT X a (rdT g xa W ma)) (hb : PW X (.BoolOp .Or (b :: rest) pos) (rdT g xa W mb)) : PW X (.BoolOp .Or (a :: b :: rest) pos) (rdT g xa W fun env => (ma env).cond (.ok .sh (.bl true)) (mb env)) := by
  refine (pw_or ha hb).imp fun σ H Q ⟨F0, H0, F, env, R, p⟩ => ?_
  refine rdT_cond R p fun b F1 H1 ex fx p1 => ?_
  cases b with
  | false => exact ⟨F0, H0, F1, env, R.mono ex fx, p1⟩
  | true =>
    obtain ⟨b', e1, q⟩ := post_sh fx.fh p1 (.bl true)
    cases e1
    exact q
theorem se_ite {ma mb mc : Env → Rs} (hc : PT X c (rdT g xa W mc)) (ha : PE X a (rd g xa W ma)) (hb : PE X b (rd g xa W mb)) : PE X (.IfExp c a b pos) (rd g xa W fun env => (mc env).cond (ma env) (mb env)) := by
  refine (pe_ifExp hc ha hb).imp fun σ H Q ⟨F0, H0, F, env, R, p⟩ => ?_
  refine rdT_cond R p fun b F1 H1 ex fx p1 => ?_
  cases b with
  | true => exact ⟨F0, H0, F1, env, R.mono ex fx, p1⟩
  | false => exact ⟨F0, H0, F1, env, R.mono ex fx, p1⟩
theorem st_ite {ma mb mc : Env → Rs} (hc : PT X c (rdT g xa W mc)) (ha : PT X a (rdT g xa W ma)) (hb : PT X b (rdT g xa W mb)) : PT X (.IfExp c a b pos) (rdT g xa W fun env => (mc env).cond (ma env) (mb env)) := by
  refine ⟨fun pins s σ H Q I h => ?_⟩
  obtain ⟨F0, H0, F, env, R, p⟩ := h
  show wpAny _ _ (do if ← isTrue c X.env (eval c X.env) then isTrue a X.env (eval a X.env) else isTrue b X.env (eval b X.env)) _ _ s
  refine wpAny_bind (thn (hc.run pins s σ H (fun k H1 => if k = true then rdT g xa W ma σ H1 Q else rdT g xa W mb σ H1 Q) I ?_) fun d s1 ⟨H1, I1, q1⟩ => ?_)
  · refine rdT_cond R p fun b F1 H1 ex fx p1 => ?_
    cases b with
    | true => exact ⟨F0, H0, F1, env, R.mono ex fx, p1⟩
    | false => exact ⟨F0, H0, F1, env, R.mono ex fx, p1⟩
  · cases d with
    | true => exact ha.run pins s1 σ H1 Q I1 q1
    | false => exact hb.run pins s1 σ H1 Q I1 q1
/-! ### argument lists -/
theorem sa_nil : PA X [] (rdL g xa W fun _ => .ok true []) := pa_nil.imp fun σ H Q ⟨F0, H0, F, env, R, p⟩ => p [] F H (.refl H) (.refl R.fx.fh) .nil
theorem cons_red {ma : Env → Rs} {ml : Env → Rl} {σ : L2.St} {H : Hp} {Q : List V → Hp → Prop} (h : rdL g xa W (fun env => (ma env).cons (ml env)) σ H Q) : tCons (rd g xa W ma) (rdL g xa W ml) σ H Q := by
  obtain ⟨F0, H0, F, env, R, p⟩ := h
  show rd g xa W ma σ H _
  refine ⟨F0, H0, F, env, R, ?_⟩
  have p : PostL g W σ F H ((ma env).cons (ml env)) Q := p
  cases e1 : ma env with
  | bad => rw [e1] at p; exact p.elim
  | ex x => rw [e1] at p; exact p
  | ok m x =>
    rw [e1] at p
    intro v F1 H1 ex fx vr
    by_cases hm : m = .bo
    · -- a borrowed one
      subst hm
      refine ⟨F0, H0, F1, env, R.mono ex fx, ?_⟩
      cases e2 : ml env with
      | bad => rw [e2] at p; exact p.elim
      | ex x =>
        rw [e2] at p
        intro d F' H' ex' fx' xr
        exact p d F' H' (ex.trans ex') (Fx.trans ex fx fx') xr
      | ok n xs =>
        rw [e2] at p
        intro vs F2 H2 ex2 fx2 lr
        refine p (v :: vs) F2 H2 (ex.trans ex2) (Fx.trans ex fx fx2) ?_
        have hn : (n && decide (Md.bo ≠ Md.bo)) = false := by simp
        rw [hn, if_neg Bool.false_ne_true]
        exact .cons (RepB.mono ex2 fx2.ff vr.b) (lrep_b lr)
    · obtain ⟨F2, fx2, ff2, r2⟩ := VRep.keep hm fx vr
      refine ⟨F0, H0, F2, env, R.mono ex fx2, ?_⟩
      cases e2 : ml env with
      | bad => rw [e2] at p; exact p.elim
      | ex x =>
        rw [e2] at p
        intro d F' H' ex' fx' xr
        exact p d F' H' (ex.trans ex') (Fx.trans ex fx2 fx') xr
      | ok n xs =>
        rw [e2] at p
        intro vs F3 H3 ex3 fx3 lr
        refine p (v :: vs) F3 H3 (ex.trans ex3) (Fx.trans ex fx2 fx3) ?_
        have hn : (n && decide (m ≠ Md.bo)) = n := by simp [hm]
        rw [hn]
        cases n with
        | true => exact .cons (r2.mono fx3.ff) lr
        | false => exact .cons (.inl (r2.mono fx3.ff)) lr
theorem sa_cons {ma : Env → Rs} {ml : Env → Rl} {es : List Expr} (hp : plE a = true) (ha : PE X a (rd g xa W ma)) (hr : PA X es (rdL g xa W ml)) : PA X (a :: es) (rdL g xa W fun env => (ma env).cons (ml env)) :=
  (pa_cons ha hr (star_pl hp)).imp fun σ H Q h => cons_red h
theorem se_tup {ml : Env → Rl} {es : List Expr} {x1} (h : PA X es (rdL g xa W ml)) : PE X (.Tuple es x1 pos) (rd g xa W fun env => (ml env).bind tupR) := by
  refine (pe_tup h).imp fun σ H Q ⟨F0, H0, F, env, R, p⟩ => ?_
  refine rdL_bind R p fun n xs vs F1 H1 e1 ex fx vr p1 => ?_
  cases n with
  | false => exact p1.elim
  | true =>
    have vr : RepVs g F1 vs xs := vr
    have p1 : PostE g W σ F1 H1 (if xs.length ≤ 100000 then .ok .sh (.tup xs) else .bad) Q := p1
    split at p1
    · rename_i hl
      have z : vs.length ≤ sizeLine := by
        rw [vr.length]
        exact Nat.le_trans hl (by decide)
      exact ⟨z, post_tup fx.fh p1 vr z⟩
    · exact p1.elim
theorem se_lst {ml : Env → Rl} {es : List Expr} (h : PA X es (rdL g xa W ml)) : PE X (.List es pos) (rd g xa W fun env => (ml env).bind lstR) := by
  refine (pe_lst h).imp fun σ H Q ⟨F0, H0, F, env, R, p⟩ => ?_
  refine rdL_bind R p fun n xs vs F1 H1 e1 ex fx vr p1 => ?_
  cases n with
  | false => exact p1.elim
  | true =>
    have vr : RepVs g F1 vs xs := vr
    have p1 : PostE g W σ F1 H1 (if xs.length ≤ 100000 then .ok .fr (.lst xs) else .bad) Q := p1
    split at p1
    · rename_i hl
      have z : vs.length ≤ sizeLine := by
        rw [vr.length]
        exact Nat.le_trans hl (by decide)
      exact ⟨z, post_lst fx.fh p1 vr⟩
    · exact p1.elim
theorem se_empK : PE X (.Dict [] [] pos) (rd g xa W fun _ => .ok .fr (.dct false [] [])) :=
  pe_dnewK.imp fun σ H Q ⟨F0, H0, F, env, R, p⟩ => fun a na => post_dK R.fx.fh p .nil a na
theorem se_empT : PE X (.Dict [] [] pos) (rd g xa W fun _ => .ok .fr (.dct true [] [])) :=
  pe_dnewT.imp fun σ H Q ⟨F0, H0, F, env, R, p⟩ => fun a na => post_dT R.fx.fh p .nil a na
theorem se_sub {ma mb : Env → Rs} (hx : XOk g X) (hp : plE b = true) (ha : PE X a (rd g xa W ma)) (hb : PE X b (rd g xa W mb)) : PE X (.Subscript a b pos) (rd g xa W fun env => (ma env).bind fun _ x => (mb env).bind fun _ y => ofV .sh (subP x y)) := by
  refine (pe_ix (ix_sub (by have := hx.un; omega) hx.K) ha hb (plix hp)).imp fun σ H Q ⟨F0, H0, F, env, R, p⟩ => ?_
  refine rd_bind R p fun m x v F1 H1 e1 ex fx vr p1 => rd_bind (R.mono ex fx) p1 fun m2 y w F2 H2 e2 ex2 fx2 wr p2 => ?_
  exact ⟨W, σ, F2, x, y, fx2.fh, vr.b.mono ex2 fx2.ff, wr.b, p2⟩
/-- a slice's part -/
def PtR (g : Gh) (xa : Option (Addr × Value × Option Addr)) (W : WX) (X : Cx) (lo : Option Expr) (m : Env → (Option Int → Rs) → Rs) : Prop :=
  ∃ tl, PO X lo tl ∧ ∀ (σ : L2.St) (F0 H0 F H : Hp) (env : Env) (k : Option Int → Rs) (Q : VK) (Q2 : Option Int → Hp → Prop), Rel g xa F0 H0 F σ H env → PostE g W σ F H (m env k) Q →
    (∀ o F1 H1, Ext H H1 → Fx F H F1 H1 → PostE g W σ F1 H1 (k o) Q → Q2 o H1) → tl σ H Q2
theorem pt_none : PtR g xa W X none fun _ k => k none :=
  ⟨_, po_none, fun σ F0 H0 F H env k Q Q2 R p h => h none F H (.refl H) (.refl R.fx.fh) p⟩
theorem pt_some {m : Env → Rs} (he : PE X e (rd g xa W m)) : PtR g xa W X (some e) fun env k => (m env).bind fun _ x => intK k x := by
  refine ⟨_, po_some he, fun σ F0 H0 F H env k Q Q2 R p h => ?_⟩
  refine rd_bind R p fun m2 y w F2 H2 e2 ex2 fx2 wr p2 => ?_
  cases y with
  | int i =>
    have := wr.b.int
    subst this
    exact ⟨i, rfl, h (some i) F2 H2 ex2 fx2 p2⟩
  | _ => exact p2.elim
theorem se_slc {ma : Env → Rs} {ml mh : Env → (Option Int → Rs) → Rs} {lo hi : Option Expr} {p2 : Pos} (hx : XOk g X) (ha : PE X a (rd g xa W ma)) (hl : PtR g xa W X lo ml) (hh : PtR g xa W X hi mh) :
    PE X (.Subscript a (.Slice lo hi none p2) pos) (rd g xa W fun env => (ma env).bind fun _ x => ml env fun l => mh env fun h => slcP x l h) := by
  obtain ⟨tl, hl, gl⟩ := hl
  obtain ⟨th, hh, gh⟩ := hh
  refine (pe_slice (sl_slc hx.K) ha hl hh).imp fun σ H Q ⟨F0, H0, F, env, R, p⟩ => ?_
  refine rd_bind R p fun m x v F1 H1 e1 ex fx vr p1 => ?_
  refine gl σ F0 H0 F1 H1 env _ Q _ (R.mono ex fx) p1 fun l F2 H2 ex2 fx2 p2 => ?_
  refine gh σ F0 H0 F2 H2 env _ Q _ ((R.mono ex fx).mono ex2 fx2) p2 fun h F3 H3 ex3 fx3 p3 => ?_
  exact ⟨W, σ, F3, x, fx3.fh, (vr.b.mono ex2 fx2.ff).mono ex3 fx3.ff, p3⟩
theorem plall {pos : Pos} : ∀ {es : List Expr} {env : PySem.Env}, es.all plE = true → (backTo pos (starEach es env)).any (·.1) = false
  | [], _, _ => rfl
  | e :: es, env, h => by
    simp only [List.all_cons, Bool.and_eq_true] at h
    have ih := plall (pos := pos) (env := env) h.2
    rw [star_pl h.1]
    simp only [backTo, List.map_cons, List.any_cons, Bool.false_or] at ih ⊢
    exact ih
theorem plfew {pos : Pos} : ∀ {es : List Expr} {env : PySem.Env}, es.all plE = true → (backTo pos (starEach es env)).all (fun x => !x.1) = true
  | [], _, _ => rfl
  | e :: es, env, h => by
    simp only [List.all_cons, Bool.and_eq_true] at h
    have ih := plfew (pos := pos) (env := env) h.2
    rw [star_pl h.1]
    simp only [backTo, List.map_cons, List.all_cons, Bool.not_false, Bool.true_and] at ih ⊢
    exact ih
theorem se_blt {ml : Env → Rl} {es : List Expr} {x : Str} {p : Pos} (hx : XOk g X) (hc : X.calm = true) (b : BF) (hg : Gl X x) (hm : X.mg x = none) (hv : bootBuiltins x = some b.val) (hp : (a :: es).all plE = true)
    (hn : x ≠ "__name__") (hdb : (x == ("__debug__" : Str)) = false) (h : PA X (a :: es) (rdL g xa W ml)) : PE X (.Call (.Name x p) (a :: es) [] pos) (rd g xa W fun env => (ml env).bind fun _ vs => bltP b vs) := by
  have hcr := call_blt hc (by have := hx.un; omega) hx.K b
  simp only [List.all_cons, Bool.and_eq_true] at hp
  have hpl : (backTo pos (starEach es X.env)).any (·.1) = false := plall hp.2
  have i : ∀ σ H Q, rd g xa W (fun env => (ml env).bind fun _ vs => bltP b vs) σ H Q → tCB (rBlt g b) (rdL g xa W ml) σ H Q := fun σ H Q ⟨F0, H0, F, env, R, p⟩ =>
    rdL_bind R p fun n xs vs F1 H1 e1 ex fx vr p1 => ⟨W, σ, F1, xs, fx.fh, lrep_b vr, p1⟩
  cases b <;> first
    | exact (pe_callB hcr hg hm hv h hn hdb (star_pl hp.1) hpl).imp i
    | exact (pe_callTy hcr hg hm hv h hn hdb (star_pl hp.1) hpl).imp i
/-- the receiver is not super() -/
def noSup : Expr → Bool
  | .Call _ _ _ _ => false
  | _ => true
theorem base_of {o : Expr} {n : Str} {env : PySem.Env} (h : noSup o = true) : attributeBase o n env (eval o env) = eval o env := by
  cases o <;> first | rfl | (simp [noSup] at h)
/-- a method's name -/
def MF.nm : MF → Str
  | .join => "join" | .split => "split" | .startswith => "startswith" | .replace1 => "replace" | .index => "index" | .get => "get" | .items => "items"
theorem sl_m : ∀ m : MF, m = .join ∨ m = .split ∨ m = .startswith ∨ m = .index → Slot "str" m.nm m.id ∧ typeOf (.builtin m.id) = pure (.type "method_descriptor") := by
  rintro m (rfl | rfl | rfl | rfl)
  · exact ⟨PySem.F.slot_str_join, PySem.F.type_str_join⟩
  · exact ⟨PySem.F.slot_str_split, PySem.F.type_str_split⟩
  · exact ⟨PySem.F.slot_str_startswith, PySem.F.type_str_startswith⟩
  · exact ⟨PySem.F.slot_str_index, PySem.F.type_str_index⟩
theorem se_mth {ma : Env → Rs} {ml : Env → Rl} {es : List Expr} {o : Expr} {apos : Pos} (hx : XOk g X) (m : MF) (hm : (m == .join || m == .split || m == .startswith) = true) (hb : attributeBase o m.nm X.env (eval o X.env) = eval o X.env) (hp : (a :: es).all plE = true)
    (hfew : decide ((a :: es).length < 30) = true) (hline : (apos.endLine == pos.line) = true) (ho : PE X o (rd g xa W ma)) (h : PA X (a :: es) (rdL g xa W ml)) :
    PE X (.Call (.Attribute o m.nm apos) (a :: es) [] pos) (rd g xa W fun env => (ma env).bind fun _ v => strK v ((ml env).bind fun _ vs => mthP m v vs)) := by
  have hm4 : m = .join ∨ m = .split ∨ m = .startswith ∨ m = .index := by cases m <;> simp_all
  have hmt : MtR X m.id (rMth g m) := mt_mth m (by rintro rfl; simp at hm) (by rintro rfl; simp at hm)
  have hp' := hp
  simp only [List.all_cons, Bool.and_eq_true] at hp'
  refine (pe_bm (T := "str") PySem.F.plainAttrs_str (sl_m m hm4).1 (sl_m m hm4).2 hmt ho h hb ?_ hline (star_pl hp'.1) (plall hp'.2)).imp fun σ H Q ⟨F0, H0, F, env, R, p⟩ => ?_
  · have h1 := plfew (pos := pos) (env := X.env) hp
    rw [h1]
    exact (by simpa [backToKw, keywordEach] using hfew)
  · refine rd_bind R p fun m1 x v F1 H1 e1 ex fx vr p1 => ?_
    cases ex1 : x with
    | str z =>
      subst ex1
      have hs := vr.b.str
      refine ⟨?_, rdL_bind (R.mono ex fx) p1 fun n xs vs F2 H2 e2 ex2 fx2 lr p2 => ?_⟩
      · rw [hs.1]; exact rfl
      · exact ⟨W, σ, F2, .str z, xs, fx2.fh, vr.b.mono ex2 fx2.ff, lrep_b lr, p2⟩
    | _ => subst ex1; exact p1.elim
end
end EV
set_option Elab.async false
set_option linter.all false
set_option maxRecDepth 100000
set_option maxHeartbeats 2000000
/-! EVi: contexts and judgements: an expression of the layer is what the evaluator says; calls of defs. -/
namespace EV
open PySem PySem.Spec PyProof.Rows L2

/-- a def's promise: what the function C of trees says -/
def spF (g : Gh) (C : List PV → Rs) : Sp := fun vs H Q E => ∃ (F : Hp) (σ : L2.St) (ps : List PV), FLe F H ∧ RepVs g F vs ps ∧ PostE g (fun c d _ H => E c d H) σ F H (C ps) Q
/-- the defs of the program hold what the evaluator says of them -/
def KN (g : Gh) (X : Cx) (call : Nat → List PV → Rs) : Prop :=
  ∀ f, ∃ (lev : Nat) (fd : FuncData) (ps : List Str), FnOk X.prog X.w X.K X.mg X.base (L2.CX X.prog X.w) lev (g.fa f) fd ps (spF g (call f)) ∧ Room lev X.A ∧ PySem.W.keepIn X.K (.ref (g.fa f)) = true ∧ Binds X.K fd ps []
structure Sg where
  g : Gh
  N : List Str
  mg : Str → Option Value
  EC : EV.EC
  fn : Str → Bool
/-- q: 0 in an except clause's suite, 1 in a comprehension, 2 in a def's own lines -/
structure CxO (S : Sg) (sc : Scope) (q : Nat) (xa : Option (Addr × Value × Option Addr)) (W : WX) (X : Cx) : Prop where
  K : S.g.K = X.K
  un : X.A.units + 160 < cLine
  N : X.N = S.N
  nd : S.N.Nodup
  mg : X.mg = S.mg
  sc : X.env.scope = sc
  cl : 1 ≤ q → X.calm = true
  kn : 1 ≤ q → KN S.g X S.EC.call
  pas : 1 ≤ q → ∀ σ, PassesAt (L2.CX X.prog X.w) X σ (WE W σ)
  xn : 1 ≤ q → xa = none
  fn : X.fn = S.fn
  own : q ≠ 1 → PassesOwn (model X.prog X.w) X.A X.env X.xe
  top : 2 ≤ q → X.stack = X.env :: X.outer ∧ X.env.frame = some X.env.locals ∧ X.ex = [] ∧ Takes X W
  xs : ∀ a c d, xa = some (a, c, d) → ∃ (X0 : Cx) (oe : Obj) (pn : List (Addr × Obj)), X = X0.suite a ((a, oe) :: pn) ∧ Zc c d oe ∧ ∃ vs, oe.data = .fields vs
theorem CxO.ok {S : Sg} {sc : Scope} {q : Nat} {xa : Option (Addr × Value × Option Addr)} {W : WX} {X : Cx} (c : CxO S sc q xa W X) : XOk S.g X := ⟨c.K, c.un, by rw [c.N]; exact c.nd⟩

def SE (S : Sg) (sc : Scope) (q : Nat) (e : Expr) (ir : IR) : Prop := ∀ xa W X, CxO S sc q xa W X → PE X e (rd S.g xa W fun env => ev S.EC false ir env)
def ST (S : Sg) (sc : Scope) (q : Nat) (e : Expr) (ir : IR) : Prop := ∀ xa W X, CxO S sc q xa W X → PT X e (rdT S.g xa W fun env => ev S.EC true ir env)
def SW (S : Sg) (sc : Scope) (q : Nat) (e : Expr) (ir : IR) : Prop := ∀ xa W X, CxO S sc q xa W X → PW X e (rdT S.g xa W fun env => ev S.EC true ir env)
def SA (S : Sg) (sc : Scope) (q : Nat) (es : List Expr) (irs : IRs) : Prop := ∀ xa W X, CxO S sc q xa W X → PA X es (rdL S.g xa W fun env => evs S.EC irs env)
def SP (S : Sg) (sc : Scope) (q : Nat) (e : Option Expr) (irs : IRs) : Prop := ∀ xa W X, CxO S sc q xa W X → PtR S.g xa W X e fun env k => evP S.EC irs env k
def VisS (sc : Scope) (x : Str) : Bool := match sc.names.lookup x with | some .local => true | some .cell => true | some .free => true | _ => false
theorem visS {sc : Scope} {x : Str} (h : VisS sc x = true) : Vis sc x := by
  unfold VisS at h
  unfold Vis
  split at h <;> first | (cases h; done) | simp_all
/-- the truth is the value's truth -/
def fv : IR → Bool
  | .loc _ => true | .cst _ => true | .neg _ => true | .bin _ _ _ => true | .tup _ => true | .lst _ => true | .emp _ => true | .sub _ _ => true | .slc _ _ _ => true | .rvs _ => true
  | .xis _ _ => true | .calv _ _ => true | .call _ _ => true | .blt _ _ => true | .mth _ _ _ => true | .lc _ _ _ _ _ => true | .lcx _ _ _ _ _ => true | .lc2 _ _ _ _ _ _ _ _ _ => true | .dc _ _ _ _ _ _ _ => true | _ => false
theorem fv_ev {X : EV.EC} {ir : IR} {env : Env} (h : fv ir = true) : ev X true ir env = tru (ev X false ir env) := by
  cases ir <;> first
    | (simp [fv] at h; done)
    | (simp only [ev, fin]; done)
    | (simp only [ev]; unfold ofSl; split <;> rfl)
    | (simp only [ev]; unfold xisR; split <;> (try split) <;> rfl)
    | (simp only [ev]; split <;> rfl)
/-- a name of the module, of no function's own -/
def GlS (sc : Scope) (x : Str) : Bool := match sc.names.lookup x with | some .globalImplicit => true | _ => false
theorem glS {sc : Scope} {X : Cx} {x : Str} (hs : X.env.scope = sc) (h : GlS sc x = true) : Gl X x := by
  unfold GlS at h
  show X.env.scope.names.lookup x = _
  rw [hs]
  split at h
  · assumption
  · cases h

section
variable {S : Sg} {sc : Scope} {q : Nat} {e a b c : Expr} {ia ib ic : IR} {pos : Pos}
theorem SE.loc {x : Str} (i : Nat) (hN : S.N[i]? = some x) (hv : VisS sc x = true) (hd : (x == ("__debug__" : Str) || x == ("__classdict__" : Str)) = false) : SE S sc q (.Name x pos) (.loc i) := fun xa W X C => by
  simp only [Bool.or_eq_false_iff] at hd
  exact se_loc (by rw [C.N]; exact hN) (by rw [C.sc]; exact visS hv) hd.1 hd.2 S.EC
theorem SE.cst {v : V} {x : PV} (h : ∀ X, PE X e (tC v)) (r : ∀ (g : Gh) (F : Hp), RepV g F v x) : SE S sc q e (.cst x) := fun xa W X C => se_cst (h X) (r S.g)
theorem SE.int {i : Int} {j : Nat} : SE S sc q (.Constant (.int i) j pos) (.cst (.int i)) := SE.cst (fun X => pe_int) fun g F => .int i
theorem SE.str {s : Str} {j : Nat} (l : List Nat) (h : s = ⟨l.toArray⟩) (hl : l.length ≤ SL) : SE S sc q (.Constant (.str s) j pos) (.cst (.str l)) := by
  subst h
  exact SE.cst (fun X => pe_str) fun g F => .str l hl
theorem SE.neg (ha : SE S sc q a ia) : SE S sc q (.UnaryOp .USub a pos) (.neg ia) := fun xa W X C => se_neg (ha xa W X C)
theorem SE.nt (ha : SE S sc q a ia) : SE S sc q (.UnaryOp .Not a pos) (.nt ia) := fun xa W X C => se_nt C.ok (ha xa W X C)
theorem ST.nt (ha : ST S sc q a ia) : ST S sc q (.UnaryOp .Not a pos) (.nt ia) := fun xa W X C => st_nt (ha xa W X C)
theorem SE.bin (o : BO) (ha : SE S sc q a ia) (hb : SE S sc q b ib) : SE S sc q (.BinOp a o.op b pos) (.bin o ia ib) := fun xa W X C => se_bin C.ok o (ha xa W X C) (hb xa W X C)
theorem SE.cmp (o : CO) (hm : behindInMarks o.op b = false) (ha : SE S sc q a ia) (hb : SE S sc q b ib) : SE S sc q (.Compare a [o.op] [b] pos) (.cmp o ia ib) := fun xa W X C => se_cmp C.ok o hm (ha xa W X C) (hb xa W X C)
theorem ST.cmp (o : CO) (hm : behindInMarks o.op b = false) (ha : SE S sc q a ia) (hb : SE S sc q b ib) : ST S sc q (.Compare a [o.op] [b] pos) (.cmp o ia ib) := fun xa W X C => st_cmp C.ok o hm (ha xa W X C) (hb xa W X C)
theorem ST.v (ha : SE S sc q a ia) (hg : gnE a = true) (hf : fv ia = true) : ST S sc q a ia := fun xa W X C => (vt_gn C.ok (ha xa W X C) hg).imp fun σ H Q ⟨F0, H0, F, env, R, p⟩ => ⟨F0, H0, F, env, R, by have e := fv_ev (X := S.EC) (env := env) hf; show PostE _ _ _ _ _ (tru (ev S.EC false ia env)) _; rw [← e]; exact p⟩
theorem SE.and {rest : List Expr} (ha : SE S sc q a ia) (hb : SE S sc q (.BoolOp .And (b :: rest) pos) ib) : SE S sc q (.BoolOp .And (a :: b :: rest) pos) (.and ia ib) := fun xa W X C => se_and (ha xa W X C) (hb xa W X C)
theorem SE.or {rest : List Expr} (ha : SE S sc q a ia) (hb : SE S sc q (.BoolOp .Or (b :: rest) pos) ib) : SE S sc q (.BoolOp .Or (a :: b :: rest) pos) (.or ia ib) := fun xa W X C => se_or (ha xa W X C) (hb xa W X C)
theorem SW.and {rest : List Expr} (ha : ST S sc q a ia) (hb : SW S sc q (.BoolOp .And (b :: rest) pos) ib) : SW S sc q (.BoolOp .And (a :: b :: rest) pos) (.and ia ib) := fun xa W X C => sw_and (ha xa W X C) (hb xa W X C)
theorem SW.or {rest : List Expr} (ha : ST S sc q a ia) (hb : SW S sc q (.BoolOp .Or (b :: rest) pos) ib) : SW S sc q (.BoolOp .Or (a :: b :: rest) pos) (.or ia ib) := fun xa W X C => sw_or (ha xa W X C) (hb xa W X C)
theorem SE.ite (hc : ST S sc q c ic) (ha : SE S sc q a ia) (hb : SE S sc q b ib) : SE S sc q (.IfExp c a b pos) (.ite ic ia ib) := fun xa W X C => se_ite (hc xa W X C) (ha xa W X C) (hb xa W X C)
theorem ST.ite (hc : ST S sc q c ic) (ha : ST S sc q a ia) (hb : ST S sc q b ib) : ST S sc q (.IfExp c a b pos) (.ite ic ia ib) := fun xa W X C => st_ite (hc xa W X C) (ha xa W X C) (hb xa W X C)
theorem SA.nil : SA S sc q [] .nil := fun xa W X C => sa_nil
theorem SA.cons {es : List Expr} {ies : IRs} (hp : plE a = true) (ha : SE S sc q a ia) (hr : SA S sc q es ies) : SA S sc q (a :: es) (.cons ia ies) := fun xa W X C => sa_cons hp (ha xa W X C) (hr xa W X C)
theorem SE.tup {es : List Expr} {ies : IRs} {x1} (h : SA S sc q es ies) : SE S sc q (.Tuple es x1 pos) (.tup ies) := fun xa W X C => se_tup (h xa W X C)
theorem SE.lst {es : List Expr} {ies : IRs} (h : SA S sc q es ies) : SE S sc q (.List es pos) (.lst ies) := fun xa W X C => se_lst (h xa W X C)
theorem SE.emp : ∀ t : Bool, SE S sc q (.Dict [] [] pos) (.emp t)
  | false => fun xa W X C => se_empK
  | true => fun xa W X C => se_empT
theorem SE.sub (hp : plE b = true) (ha : SE S sc q a ia) (hb : SE S sc q b ib) : SE S sc q (.Subscript a b pos) (.sub ia ib) := fun xa W X C => se_sub C.ok hp (ha xa W X C) (hb xa W X C)
theorem SP.none : SP S sc q none .nil := fun xa W X C => pt_none
theorem SP.some (he : SE S sc q e ia) : SP S sc q (some e) (.cons ia .nil) := fun xa W X C => pt_some (he xa W X C)
theorem SE.slc {lo hi : Option Expr} {il ih : IRs} {p2 : Pos} (ha : SE S sc q a ia) (hl : SP S sc q lo il) (hh : SP S sc q hi ih) : SE S sc q (.Subscript a (.Slice lo hi none p2) pos) (.slc ia il ih) := fun xa W X C => se_slc C.ok (ha xa W X C) (hl xa W X C) (hh xa W X C)
theorem SE.mth {es : List Expr} {ies : IRs} {o : Expr} {io : IR} {apos : Pos} (m : MF) (hm : (m == .join || m == .split || m == .startswith) = true) (hb : noSup o = true) (hp : (a :: es).all plE = true)
    (hfew : decide ((a :: es).length < 30) = true) (hline : (apos.endLine == pos.line) = true) (ho : SE S sc q o io) (h : SA S sc q (a :: es) ies) : SE S sc q (.Call (.Attribute o m.nm apos) (a :: es) [] pos) (.mth m io ies) := fun xa W X C =>
  se_mth C.ok m hm (base_of hb) hp hfew hline (ho xa W X C) (h xa W X C)
theorem SE.blt {es : List Expr} {ies : IRs} {x : Str} {p : Pos} (b : BF) (hg : GlS sc x = true) (hm : S.mg x = none) (hv : bootBuiltins x = some b.val) (hp : (a :: es).all plE = true)
    (hn : x ≠ "__name__") (hdb : (x == ("__debug__" : Str)) = false) (hq : 1 ≤ q) (h : SA S sc q (a :: es) ies) : SE S sc q (.Call (.Name x p) (a :: es) [] pos) (.blt b ies) := fun xa W X C =>
  se_blt C.ok (C.cl hq) b (glS C.sc hg) (by rw [C.mg]; exact hm) hv hp hn hdb (h xa W X C)
/-! ### calls of defs -/
theorem call_len {g : Gh} {X : Cx} {lev : Nat} {f : Addr} {fd : FuncData} {ps : List Str} {sp : Sp} {CX : CXT} (F : FnOk X.prog X.w X.K X.mg X.base CX lev f fd ps sp) : True := trivial
theorem PostE.flat {g : Gh} {W : WX} {σ : L2.St} {F H : Hp} {r : Rs} {Q : VK} (p : PostE g W σ F H r Q) : PostE g (fun c d _ H => W c d σ H) σ F H r Q := by
  cases r <;> exact p
theorem PostE.unflat {g : Gh} {E : Value → Option Addr → Hp → Prop} {σ σ' : L2.St} {F H : Hp} {r : Rs} {Q : VK} (p : PostE g (fun c d _ H => E c d H) σ F H r Q) : PostE g (fun c d _ H => E c d H) σ' F H r Q := by
  cases r <;> exact p
theorem SE.call {es : List Expr} {ies : IRs} {x : Str} {p : Pos} (f : Nat) (hg : GlS sc x = true) (hm : S.mg x = some (.ref (S.g.fa f))) (hdb : (x == ("__debug__" : Str)) = false) (hp : (a :: es).all plE = true) (hq : 1 ≤ q) (h : SA S sc q (a :: es) ies) :
    SE S sc q (.Call (.Name x p) (a :: es) [] pos) (.call f ies) := fun xa W X C => by
  obtain ⟨lev, fd, ps, F, hr, hk, hb⟩ := C.kn hq f
  simp only [List.all_cons, Bool.and_eq_true] at hp
  refine (pe_callSD (E := WE W) (dvs := []) F hr (glS C.sc hg) (by rw [C.mg]; exact hm) hk hb .nil (C.pas hq) (h xa W X C) hdb (star_pl hp.1) (plall hp.2)).imp fun σ H Q ⟨F0, H0, F1, env, R, p⟩ => ?_
  show rdL S.g xa W _ σ H _
  refine rdL_bind R p fun n xs vs F2 H2 e1 ex fx vr p1 => ?_
  cases n with
  | false => exact p1.elim
  | true =>
    rw [List.append_nil]
    exact ⟨F2, σ, xs, fx.fh, vr, PostE.flat p1⟩
theorem SE.call0 {x : Str} {p : Pos} (f : Nat) (hg : GlS sc x = true) (hm : S.mg x = some (.ref (S.g.fa f))) (hdb : (x == ("__debug__" : Str)) = false) (hq : 1 ≤ q) :
    SE S sc q (.Call (.Name x p) [] [] pos) (.call f .nil) := fun xa W X C => by
  obtain ⟨lev, fd, ps, F, hr, hk, hb⟩ := C.kn hq f
  refine ⟨fun pins s σ H Q I h => ?_⟩
  obtain ⟨F0, H0, F1, env, R, p⟩ := h
  refine wpAny_Call_Name_kw (ld_glob I (glS C.sc hg) (by rw [C.mg]; exact hm) ?_ hdb)
  refine PySem.W.callWith_K0 I.kIn hk (run_fnSD (us := []) (vs := []) (dvs := []) (E := WE W) F hr hb .nil (C.pas hq σ) I .nil ?_)
  exact ⟨F1, σ, [], R.fx.fh, .nil, PostE.flat p⟩
theorem SE.calv {es : List Expr} {ies : IRs} {x : Str} {p : Pos} (i : Nat) (hN : S.N[i]? = some x) (hv : VisS sc x = true) (hd : (x == ("__debug__" : Str) || x == ("__classdict__" : Str)) = false) (hp : (a :: es).all plE = true) (hq : 1 ≤ q) (h : SA S sc q (a :: es) ies) :
    SE S sc q (.Call (.Name x p) (a :: es) [] pos) (.calv i ies) := fun xa W X C => by
  simp only [Bool.or_eq_false_iff] at hd
  simp only [List.all_cons, Bool.and_eq_true] at hp
  refine ⟨fun pins s σ H Q I h1 => ?_⟩
  obtain ⟨F0, H0, F1, env, R, pp⟩ := h1
  cases ef : fnOf env[i]? with
  | none => simp only [ev, ef] at pp; exact pp.elim
  | some f =>
    simp only [ev, ef, fin] at pp
    obtain ⟨lev, fd, ps, F, hr, hk, hb⟩ := C.kn hq f
    have hs := R.sl i
    have es1 : env[i]? = some (.sh (.fn f)) := by
      unfold fnOf at ef
      split at ef
      · rename_i f' e1
        cases ef
        exact e1
      · cases ef
    rw [es1] at hs
    obtain ⟨u, h2, h3⟩ := hs
    have e3 : u = .ref (S.g.fa f) := by cases h3; rfl
    subst e3
    have vx := visS hv
    rw [← C.sc] at vx
    refine wpAny_Call_Name_kw (thn ((pe_var (pos := p) (by rw [C.N]; exact hN) vx hd.1 hd.2).run pins s σ H (fun v H1 => v = .ref (S.g.fa f) ∧ H1 = H) I ⟨_, h2, rfl, rfl⟩) fun u s1 ⟨v, H1, I1, r1, q1⟩ => ?_)
    obtain ⟨rfl, rfl⟩ := q1
    cases r1
    refine PySem.W.callWith_K (h₀ := X.base) I.ok.mod.kin hk (thn ((h xa W X C).run pos pins s1 σ _ _ I1 (rdL_bind (Q2 := fun vs H1 => spF S.g (S.EC.call f) (vs ++ []) H1 Q (WE W σ)) R pp fun n xs vs F2 H2 e1 ex fx vr p1 => ?_)) fun us s2 ⟨vs, H2, I2, r, q⟩ => ⟨I2.kIn, ?_⟩) (star_pl hp.1) (plall hp.2)
    · cases n with
      | false => exact p1.elim
      | true =>
        rw [List.append_nil]
        exact ⟨F2, σ, xs, fx.fh, vr, PostE.flat p1⟩
    · exact run_fnSD F hr hb .nil (C.pas hq σ) I2 r q
end
end EV
set_option Elab.async false
set_option linter.all false
set_option maxRecDepth 100000
set_option maxHeartbeats 2000000
/-! EVj: what is walked. -/
namespace EV
open PySem PySem.Spec PyProof.Rows L2

/-- the walk J goes through the trees xs -/
def Wk (g : Gh) (n : Bool) (F1 H1 : Hp) (J : It) (xs : List PV) : Prop :=
  ∀ (i : Nat) (F H : Hp), FLe F1 F → FLe F H → (n = false → Ext H1 H) →
    (∀ x, xs[i]? = some x → J.go i H ∧ ∀ v H', J.yld i H v H' → ∃ F', Ext H H' ∧ Fx F H F' H' ∧ RepV g F' v x) ∧ (xs.length ≤ i → J.stop i H)
def PostI (g : Gh) (W : WX) (σ : L2.St) (F H : Hp) (k : IK) (r : Rl) (R : It → Hp → Prop) : Prop :=
  match r with
  | .ok n vs => match itm k vs with
    | some xs => ∀ J F1 H1, Ext H H1 → Fx F H F1 H1 → Wk g n F1 H1 J xs → xs.length ≤ LL → R J H1
    | none => False
  | .ex x => ∀ d F' H', Ext H H' → Fx F H F' H' → XRep g F' d x → W (.ref (g.ca x.c)) d σ H'
  | .bad => False
def rdI (g : Gh) (xa : Option (Addr × Value × Option Addr)) (W : WX) (k : IK) (r : Env → Rl) : TI := fun σ H R => ∃ F0 H0 F env, Rel g xa F0 H0 F σ H env ∧ PostI g W σ F H k (r env) R
def SI (S : Sg) (sc : Scope) (q : Nat) (tg src : Expr) (k : IK) (irs : IRs) : Prop := ∀ xa W X, CxO S sc q xa W X → PI X tg src (rdI S.g xa W k fun env => evs S.EC irs env)

section
variable {g : Gh} {xa : Option (Addr × Value × Option Addr)} {W : WX} {X : Cx} {tg e : Expr}
theorem itl_it {pins : List (Addr × Obj)} {s1 : Shared} {σ : L2.St} {H1 : Hp} {a : Addr} {xs : List V} {R : It → Hp → Prop} (I1 : Inv X pins σ H1 s1) (hq : SqL X.K H1 a xs) (q : R (Itl X.K a) H1) :
    wpAny (model X.prog X.w) X.A (pyIter (.ref a)) (PIE X pins σ tg R) X.xe s1 := by
  obtain ⟨its, rv, p, hz⟩ := I1.list hq
  refine wpAny_pyIter_list p.isList ?_
  refine ⟨s1.heap.objs.size, [s1.heap.objs.size], _, _, H1, rfl, I1.kept (t' := s1.toks) fun b o e => Heap.get?_push_of_some _ e, turn_list a _, ⟨_, Heap.get?_push_size _ rfl, rfl, rfl⟩, fun b hb => ?_, q⟩
  have e : b = s1.heap.objs.size := by simpa using hb
  subst e
  exact I1.fpOk (Nat.le_refl _) (I1.hok.fresh (Nat.le_refl _))
theorem itt_it {pins : List (Addr × Obj)} {s1 : Shared} {σ : L2.St} {H1 : Hp} {a : Addr} {xs : List V} {R : It → Hp → Prop} (I1 : Inv X pins σ H1 s1) (hq : SqT X.K H1 a xs) (q : R (Itt X.K a) H1) :
    wpAny (model X.prog X.w) X.A (pyIter (.ref a)) (PIE X pins σ tg R) X.xe s1 := by
  obtain ⟨its, rv, p, hz⟩ := I1.tuple hq
  refine wpAny_pyIter_tuple (show s1.heap.IsTuple a its.toArray from p) ?_
  refine ⟨s1.heap.objs.size, [s1.heap.objs.size], _, _, H1, rfl, I1.kept (t' := s1.toks) fun b o e => Heap.get?_push_of_some _ e, turn_tuple a _, ⟨_, Heap.get?_push_size _ rfl, rfl, rfl⟩, fun b hb => ?_, q⟩
  have e : b = s1.heap.objs.size := by simpa using hb
  subst e
  exact I1.fpOk (Nat.le_refl _) (I1.hok.fresh (Nat.le_refl _))
theorem its_it {pins : List (Addr × Obj)} {s1 : Shared} {σ : L2.St} {H1 : Hp} {x : Str} {t : Tok} {R : It → Hp → Prop} (I1 : Inv X pins σ H1 s1) (q : R (Its x) H1) :
    wpAny (model X.prog X.w) X.A (pyIter (.str x t)) (PIE X pins σ tg R) X.xe s1 := by
  cases ha : x.cps.all (· < 128)
  · exact wpAny_pyIter_wide ha (pi_one (tk := s1.toks) I1 _ (turn_str _ x t "str_iterator" (.inr rfl)) ⟨_, Heap.get?_push_size _ rfl, rfl, rfl⟩ q)
  · exact wpAny_pyIter_ascii ha (pi_one (tk := s1.toks) I1 _ (turn_str _ x t "str_ascii_iterator" (.inl rfl)) ⟨_, Heap.get?_push_size _ rfl, rfl, rfl⟩ q)
/-- a walk of what stands still -/
theorem wk_list {n : Bool} {F1 H1 : Hp} {a : Addr} {vs : List V} {xs : List PV} (hs : ∀ F H, FLe F1 F → FLe F H → (n = false → Ext H1 H) → SqL X.K H a vs) (r : RepVs g F1 vs xs) : Wk g n F1 H1 (Itl X.K a) xs := fun i F H f1 f2 f3 => by
  refine ⟨fun x hx => ?_, fun hl => ⟨vs, hs F H f1 f2 f3, by rw [r.length]; exact hl⟩⟩
  obtain ⟨u, hu, ru⟩ := r.get hx
  refine ⟨⟨vs, u, hs F H f1 f2 f3, hu⟩, fun v H' hy => ?_⟩
  obtain ⟨rfl, hy⟩ := hy
  have e := (hy vs (hs F _ f1 f2 f3)).symm.trans hu
  cases e
  exact ⟨F, .refl _, .refl f2, ru.mono f1⟩
theorem wk_tup {n : Bool} {F1 H1 : Hp} {a : Addr} {vs : List V} {xs : List PV} (hs : ∀ F H, FLe F1 F → FLe F H → (n = false → Ext H1 H) → SqT X.K H a vs) (r : RepVs g F1 vs xs) : Wk g n F1 H1 (Itt X.K a) xs := fun i F H f1 f2 f3 => by
  refine ⟨fun x hx => ?_, fun hl => ⟨vs, hs F H f1 f2 f3, by rw [r.length]; exact hl⟩⟩
  obtain ⟨u, hu, ru⟩ := r.get hx
  refine ⟨⟨vs, u, hs F H f1 f2 f3, hu⟩, fun v H' hy => ?_⟩
  obtain ⟨rfl, hy⟩ := hy
  have e := (hy vs (hs F _ f1 f2 f3)).symm.trans hu
  cases e
  exact ⟨F, .refl _, .refl f2, ru.mono f1⟩
theorem wk_str {n : Bool} {F1 H1 : Hp} {s : List Nat} : Wk g n F1 H1 (Its ⟨s.toArray⟩) (s.map fun c => .str [c]) := fun i F H f1 f2 f3 => by
  refine ⟨fun x hx => ?_, fun hl => ?_⟩
  · rw [List.getElem?_map, Option.map_eq_some_iff] at hx
    obtain ⟨c, hc, rfl⟩ := hx
    refine ⟨?_, fun v H' hy => ?_⟩
    · show i < s.toArray.size
      rw [List.size_toArray]
      exact (List.getElem?_eq_some_iff.mp hc).1
    · obtain ⟨rfl, d, hd, rfl⟩ := hy
      have e : s.toArray[i]? = some d := hd
      rw [List.getElem?_toArray, hc] at e
      cases e
      exact ⟨F, .refl _, .refl f2, .str [c] (by show 1 ≤ SL; decide)⟩
  · show s.toArray.size ≤ i
    rw [List.size_toArray]
    rw [List.length_map] at hl
    exact hl
theorem wk_rng {n : Bool} {F1 H1 : Hp} {lo hi : Int} : Wk g n F1 H1 (Itr lo (hi - lo).toNat) (rngL lo hi) := fun i F H f1 f2 f3 => by
  refine ⟨fun x hx => ?_, fun hl => ?_⟩
  · unfold rngL at hx
    rw [List.getElem?_map, Option.map_eq_some_iff] at hx
    obtain ⟨c, hc, rfl⟩ := hx
    obtain ⟨h1, h2⟩ := List.getElem?_eq_some_iff.mp hc
    rw [List.length_range] at h1
    rw [List.getElem_range] at h2
    subst h2
    refine ⟨h1, fun v H' hy => ?_⟩
    obtain ⟨rfl, rfl⟩ := hy
    exact ⟨F, .refl _, .refl f2, .int _⟩
  · unfold rngL at hl
    rw [List.length_map, List.length_range] at hl
    exact hl
theorem wk_enum {n : Bool} {F1 H1 : Hp} {a : Addr} {vs : List V} {xs : List PV} (hs : ∀ F H, FLe F1 F → FLe F H → (n = false → Ext H1 H) → SqL X.K H a vs) (r : RepVs g F1 vs xs) : Wk g n F1 H1 (Ite X.K a) (xs.zipIdx.map fun p => .tup [.int p.2, p.1]) := fun i F H f1 f2 f3 => by
  refine ⟨fun x hx => ?_, fun hl => ⟨vs, hs F H f1 f2 f3, by rw [r.length]; simpa using hl⟩⟩
  rw [List.getElem?_map, Option.map_eq_some_iff] at hx
  obtain ⟨⟨y, j⟩, hy, rfl⟩ := hx
  rw [List.getElem?_zipIdx, Option.map_eq_some_iff] at hy
  obtain ⟨z, hz, e⟩ := hy
  simp only [Nat.zero_add, Prod.mk.injEq] at e
  obtain ⟨rfl, rfl⟩ := e
  obtain ⟨u, hu, ru⟩ := r.get hz
  refine ⟨⟨vs, u, hs F H f1 f2 f3, hu⟩, fun v H' hy => ?_⟩
  obtain ⟨T, x, rfl, hT, rfl, hy⟩ := hy
  have e := (hy vs (hs F _ f1 f2 f3)).symm.trans hu
  have e := Option.some.inj e
  subst e
  have ff := Fx.freeze (u := .tup [.int (i : Nat), x]) f2 hT
  exact ⟨_, .new hT, ff, .tup upd_same (by show 2 ≤ sizeLine; decide) (.cons (.int _) (.cons (ru.mono (f1.trans ff.ff)) .nil))⟩
/-- a kept source: what the lemmas on walks ask -/
theorem sl_of {m : Md} {F H F1 H1 : Hp} {v : V} {xs : List PV} (fx : Fx F H F1 H1) (r : VRep g m H F1 H1 v (.lst xs)) : ∃ a vs F2, v = .ref a ∧ Fx F H F2 H1 ∧ RepVs g F2 vs xs ∧ SqL X.K H1 a vs ∧
    ∀ F' H', FLe F2 F' → FLe F' H' → ((true && decide (m ≠ Md.bo)) = false → Ext H1 H') → SqL X.K H' a vs := by
  by_cases hm : m = .bo
  · subst hm
    obtain ⟨a, vs, rfl, h1, r1⟩ := RepB.lst fx.fh r.b
    refine ⟨a, vs, F1, rfl, fx, r1, sqL_of h1, fun F' H' f1 f2 f3 => sqL_of (rd_mono (f3 (by simp)).fle h1)⟩
  · obtain ⟨F2, fx2, _, r2⟩ := VRep.keep hm fx r
    cases r2 with
    | lst h r => exact ⟨_, _, F2, rfl, fx2, r, sqL_of (rd_mono fx2.fh h), fun F' H' f1 f2 f3 => sqL_of (rd_mono (f1.trans f2) h)⟩
end
section
variable {S : Sg} {sc : Scope} {q : Nat} {e a b c tg : Expr} {ia ib ic : IR} {pos : Pos}
theorem SI.seq (ha : SE S sc q a ia) : SI S sc q tg a .seq (.cons ia .nil) := fun xa W X C => by
  refine ⟨fun pins s σ H R I h => ?_⟩
  obtain ⟨F0, H0, F, env, RR, p⟩ := h
  refine thn ((ha xa W X C).run pins s σ H (fun v H1 => (∃ a xs, v = .ref a ∧ SqL X.K H1 a xs ∧ (xs.length ≤ LL → R (Itl X.K a) H1)) ∨ (∃ a xs, v = .ref a ∧ SqT X.K H1 a xs ∧ (xs.length ≤ LL → R (Itt X.K a) H1)) ∨ ∃ z, v = .str z ∧ R (Its z) H1) I ⟨F0, H0, F, env, RR, ?_⟩) fun u s1 ⟨x, H1, I1, r1, q1⟩ => ?_
  · simp only [evs] at p
    show PostE S.g W σ F H (ev S.EC false ia env) _
    cases e1 : ev S.EC false ia env with
    | bad => rw [e1] at p; exact p.elim
    | ex x => rw [e1] at p; exact p
    | ok m x =>
      rw [e1] at p
      intro v F1 H1 ex fx vr
      cases x with
      | lst xs =>
        obtain ⟨a, vs, F2, rfl, fx2, r2, h2, hs⟩ := sl_of (X := X) fx vr
        exact .inl ⟨a, vs, rfl, h2, fun hb => p _ F2 H1 ex fx2 (wk_list hs r2) (by rw [← r2.length]; exact hb)⟩
      | tup xs =>
        by_cases hm : m = .bo
        · subst hm
          obtain ⟨a, vs, rfl, h1, _, r1⟩ := RepB.tup fx.fh vr.b
          exact .inr (.inl ⟨a, vs, rfl, .inl (.inl h1), fun hb => p _ F1 H1 ex fx (wk_tup (fun F' H' f1 f2 f3 => .inl (.inl ((f3 (by simp)) _ _ h1))) r1) (by rw [← r1.length]; exact hb)⟩)
        · obtain ⟨F2, fx2, _, r2⟩ := VRep.keep hm fx vr
          cases r2 with
          | tup h z r => exact .inr (.inl ⟨_, _, rfl, .inl (.inl (tup_mono fx2.fh h)), fun hb => p _ F2 H1 ex fx2 (wk_tup (fun F' H' f1 f2 f3 => .inl (.inl (tup_mono (f1.trans f2) h))) r) (by rw [← r.length]; exact hb)⟩)
      | ctp xs =>
        obtain ⟨a, vs, rfl, h1, r1⟩ := RepB.ctp vr.b
        have hk : KT X.K a vs := by rw [← C.K]; exact h1
        exact .inr (.inl ⟨a, vs, rfl, sqT_of hk, fun hb => p _ F1 H1 ex fx (wk_tup (fun F' H' f1 f2 f3 => sqT_of hk) r1) (by rw [← r1.length]; exact hb)⟩)
      | str z =>
        obtain ⟨rfl, hz⟩ := vr.b.str
        exact .inr (.inr ⟨_, rfl, p _ F1 H1 ex fx wk_str (by rw [List.length_map]; exact Nat.le_trans hz (by decide))⟩)
      | _ => exact p.elim
  · rcases q1 with ⟨a, xs, rfl, hq, q⟩ | ⟨a, xs, rfl, hq, q⟩ | ⟨z, rfl, q⟩
    · cases r1
      exact itl_it I1 hq (q (by obtain ⟨its, rv, _, hz⟩ := I1.list hq; rw [sizeLine_eq] at hz; exact hz))
    · cases r1
      exact itt_it I1 hq (q (by obtain ⟨its, rv, _, hz⟩ := I1.tuple hq; rw [sizeLine_eq] at hz; exact hz))
    · obtain ⟨t, rfl⟩ := r1
      exact its_it I1 q
def lenI : IRs → Nat
  | .nil => 0
  | .cons _ r => lenI r + 1
theorem evs_len {X : EV.EC} {env : Env} : ∀ {irs : IRs} {n : Bool} {vs : List PV}, evs X irs env = .ok n vs → vs.length = lenI irs
  | .nil, n, vs, h => by
    simp only [evs, Rl.ok.injEq] at h
    rw [← h.2]
    rfl
  | .cons a r, n, vs, h => by
    simp only [evs] at h
    cases e1 : ev X false a env with
    | bad => rw [e1] at h; cases h
    | ex x => rw [e1] at h; cases h
    | ok m v =>
      rw [e1] at h
      cases e2 : evs X r env with
      | bad => rw [e2] at h; cases h
      | ex x => rw [e2] at h; cases h
      | ok n2 ws =>
        rw [e2] at h
        simp only [Rs.cons, Rl.ok.injEq] at h
        rw [← h.2, List.length_cons, evs_len e2]
        rfl
theorem inR_of {i : Int} (h : inR i = true) : -(2 ^ 62) ≤ i ∧ i < 2 ^ 62 := by
  unfold inR at h
  simp only [Bool.and_eq_true, decide_eq_true_eq] at h
  omega
theorem rng_len {i j : Int} (h1 : inR i = true) (h2 : inR j = true) : (rngL i j).length ≤ LL := by
  unfold inR at h1 h2
  simp only [Bool.and_eq_true, decide_eq_true_eq] at h1 h2
  unfold rngL
  rw [List.length_map, List.length_range]
  show (j - i).toNat ≤ 16777216
  omega
theorem SI.rng1 {x : Str} {p : Pos} (hx : x = "range") (hg : GlS sc "range" = true) (hm : S.mg "range" = none) (hp : plE a = true) (h : SA S sc q [a] (.cons ia .nil)) : SI S sc q tg (.Call (.Name x p) [a] [] pos) .rng (.cons ia .nil) := fun xa W X C => by
  subst hx
  refine ⟨fun pins s σ H R I h1 => ?_⟩
  obtain ⟨F0, H0, F, env, RR, pp⟩ := h1
  refine (pi_range1 (ta := rdL S.g xa W fun env => evs S.EC (.cons ia .nil) env) (glS C.sc hg) (by rw [C.mg]; exact hm) (h xa W X C) (star_pl hp)).run pins s σ H R I ?_
  show rdL S.g xa W _ σ H _
  refine ⟨F0, H0, F, env, RR, ?_⟩
  dsimp only at pp ⊢
  cases e1 : evs S.EC (.cons ia .nil) env with
  | bad => rw [e1] at pp; exact pp.elim
  | ex x => rw [e1] at pp; exact pp
  | ok n vs =>
    rw [e1] at pp
    intro us F1 H1 ex fx lr
    have lr := lrep_b lr
    simp only [PostI] at pp
    have hl := evs_len e1
    match vs, lr, pp, hl with
    | [.int j], .cons r .nil, pp, _ =>
      simp only [itm] at pp
      cases hj : inR j with
      | false => rw [hj] at pp; exact pp.elim
      | true =>
        rw [hj] at pp
        have e := RepB.int r
        subst e
        have w := wk_rng (g := S.g) (n := n) (F1 := F1) (H1 := H1) (lo := 0) (hi := j)
        rw [Int.sub_zero] at w
        exact ⟨j, rfl, (inR_of hj).1, (inR_of hj).2, pp _ F1 H1 ex fx w (rng_len (by decide) hj)⟩
theorem SI.rng2 {x : Str} {p : Pos} (hx : x = "range") (hg : GlS sc "range" = true) (hm : S.mg "range" = none) (hp : (plE a && plE b) = true) (h : SA S sc q [a, b] (.cons ia (.cons ib .nil))) : SI S sc q tg (.Call (.Name x p) [a, b] [] pos) .rng (.cons ia (.cons ib .nil)) := fun xa W X C => by
  subst hx
  simp only [Bool.and_eq_true] at hp
  refine ⟨fun pins s σ H R I h1 => ?_⟩
  obtain ⟨F0, H0, F, env, RR, pp⟩ := h1
  refine (pi_range2 (ta := rdL S.g xa W fun env => evs S.EC (.cons ia (.cons ib .nil)) env) (glS C.sc hg) (by rw [C.mg]; exact hm) (h xa W X C) (by rw [star_pl hp.1, star_pl hp.2]; rfl) (star_pl hp.2)).run pins s σ H R I ?_
  show rdL S.g xa W _ σ H _
  refine ⟨F0, H0, F, env, RR, ?_⟩
  dsimp only at pp ⊢
  cases e1 : evs S.EC (.cons ia (.cons ib .nil)) env with
  | bad => rw [e1] at pp; exact pp.elim
  | ex x => rw [e1] at pp; exact pp
  | ok n vs =>
    rw [e1] at pp
    intro us F1 H1 ex fx lr
    have lr := lrep_b lr
    simp only [PostI] at pp
    have hl := evs_len e1
    match vs, lr, pp, hl with
    | [.int i, .int j], .cons r (.cons r2 .nil), pp, _ =>
      simp only [itm] at pp
      cases hj : inR i && inR j with
      | false => rw [hj] at pp; exact pp.elim
      | true =>
        rw [hj] at pp
        simp only [Bool.and_eq_true] at hj
        have e := RepB.int r
        subst e
        have e := RepB.int r2
        subst e
        exact ⟨i, j, rfl, ⟨(inR_of hj.1).1, (inR_of hj.1).2, (inR_of hj.2).1, (inR_of hj.2).2⟩, pp _ F1 H1 ex fx wk_rng (rng_len hj.1 hj.2)⟩
theorem SI.enum {x : Str} {p : Pos} {es : List Expr} {kk : Nat} {tpos : Pos} (hx : x = "enumerate") (hg : GlS sc "enumerate" = true) (hm : S.mg "enumerate" = none) (hp : plE a = true) (ha : SE S sc q a ia) :
    SI S sc q (.Tuple es kk tpos) (.Call (.Name x p) [a] [] pos) .enum (.cons ia .nil) := fun xa W X C => by
  subst hx
  refine ⟨fun pins s σ H R I h1 => ?_⟩
  obtain ⟨F0, H0, F, env, RR, pp⟩ := h1
  have hst := star_pl (es := []) (env := X.env) hp
  refine wpAny_mono ((pi_enum (elts := es) (kk := kk) (tpos := tpos) (ta := tCons (rd S.g xa W fun env => ev S.EC false ia env) tNil) (glS C.sc hg) (by rw [C.mg]; exact hm) (pa_cons (ha xa W X C) pa_nil hst) hst).run pins s σ H (fun J H1 => ∃ a0 ys, SqL X.K H1 a0 ys ∧ (ys.length ≤ LL → R J H1)) I ?_)
    (fun v s1 hv => wpAny_mono hv (fun itv s2 h2 => ?_) fun _ _ z => z) fun _ _ z => z
  · show rd S.g xa W _ σ H _
    refine ⟨F0, H0, F, env, RR, ?_⟩
    simp only [evs] at pp
    dsimp only
    cases e1 : ev S.EC false ia env with
    | bad => rw [e1] at pp; exact pp.elim
    | ex x => rw [e1] at pp; exact pp
    | ok m x =>
      rw [e1] at pp
      intro v F1 H1 ex fx vr
      cases x with
      | lst xs =>
        obtain ⟨a, vs, F2, rfl, fx2, r2, h2, hs⟩ := sl_of (X := X) fx vr
        exact ⟨a, vs, rfl, h2, a, vs, h2, fun hb => pp _ F2 H1 ex fx2 (wk_enum hs r2) (by rw [List.length_map, List.length_zipIdx, ← r2.length]; exact hb)⟩
      | _ => exact pp.elim
  · obtain ⟨it, fp, tn, J, H', e, I2, T, st, hf, a0, ys, hq, q⟩ := h2
    exact ⟨it, fp, tn, J, H', e, I2, T, st, hf, q (by obtain ⟨its, rv, _, hz⟩ := I2.list hq; rw [sizeLine_eq] at hz; exact hz)⟩
end
end EV
set_option Elab.async false
set_option linter.all false
set_option maxRecDepth 100000
set_option maxHeartbeats 2000000
/-! EVk: slots that are set; targets. -/
namespace EV
open PySem PySem.Spec PyProof.Rows L2

section
variable {g : Gh} {xa : Option (Addr × Value × Option Addr)} {W : WX} {σ : L2.St} {F0 H0 F H : Hp} {env : Env}
theorem get_set {α : Type} (l : List α) (i j : Nat) (x : α) : (l.set i x)[j]? = if i = j then (if i < l.length then some x else none) else l[j]? := by
  by_cases h : i = j
  · subst h
    rw [if_pos rfl]
    by_cases hl : i < l.length
    · rw [if_pos hl, List.getElem?_set_self hl]
    · rw [if_neg hl, List.getElem?_eq_none (by simpa using hl)]
  · rw [if_neg h, List.getElem?_set_ne h]
/-- a slot gets a shared value -/
theorem Rel.setSh (R : Rel g xa F0 H0 F σ H env) (i : Nat) {v : V} {x : PV} (r : RepV g F v x) : Rel g xa F0 H0 F (σ.set i (some v)) H (env.set i (.sh x)) := by
  refine ⟨R.ext, R.fx, by simp [R.len], fun j => ?_, fun j k a b p hjk e1 e2 e3 => ?_⟩
  · rw [get_set, get_set, R.len]
    by_cases h : i = j
    · rw [if_pos h, if_pos h]
      by_cases hl : i < env.length
      · rw [if_pos hl, if_pos hl]
        exact ⟨v, rfl, r⟩
      · rw [if_neg hl, if_neg hl]
        trivial
    · rw [if_neg h, if_neg h]
      exact R.sl j
  · rw [get_set] at e1 e2
    have h1 : i ≠ j := fun h => by
      rw [if_pos h] at e1
      split at e1 <;> simp at e1
    have h2 : i ≠ k := fun h => by
      rw [if_pos h] at e2
      split at e2 <;> simp at e2
    rw [if_neg h1] at e1
    rw [if_neg h2] at e2
    rw [get_set, if_neg h1] at e3
    rw [get_set, if_neg h2]
    exact R.ap j k a b p hjk e1 e2 e3
/-- a slot is forgotten -/
theorem Rel.setUn (R : Rel g xa F0 H0 F σ H env) (i : Nat) (v : Option V) : Rel g xa F0 H0 F (σ.set i v) H (env.set i .un) := by
  refine ⟨R.ext, R.fx, by simp [R.len], fun j => ?_, fun j k a b p hjk e1 e2 e3 => ?_⟩
  · rw [get_set, get_set, R.len]
    by_cases h : i = j
    · rw [if_pos h, if_pos h]
      by_cases hl : i < env.length
      · rw [if_pos hl, if_pos hl]
        trivial
      · rw [if_neg hl, if_neg hl]
        trivial
    · rw [if_neg h, if_neg h]
      exact R.sl j
  · rw [get_set] at e1 e2
    have h1 : i ≠ j := fun h => by
      rw [if_pos h] at e1
      split at e1 <;> simp at e1
    have h2 : i ≠ k := fun h => by
      rw [if_pos h] at e2
      split at e2 <;> simp at e2
    rw [if_neg h1] at e1
    rw [if_neg h2] at e2
    rw [get_set, if_neg h1] at e3
    rw [get_set, if_neg h2]
    exact R.ap j k a b p hjk e1 e2 e3
theorem set_none_comm (σ : L2.St) (v : Nat) : ∀ vs : List Nat, wipe (σ.set v none) vs = (wipe σ vs).set v none
  | [] => rfl
  | w :: vs => by
    unfold wipe
    rw [set_none_comm σ v vs]
    by_cases h : v = w
    · subst h; rfl
    · exact List.set_comm _ _ h
theorem Rel.wipe {xs : List Nat} : ∀ {σ : L2.St} {env : Env}, Rel g xa F0 H0 F σ H env → Rel g xa F0 H0 F (L2.wipe σ xs) H (clr env xs) := by
  induction xs with
  | nil => intro σ env R; exact R
  | cons v vs ih =>
    intro σ env R
    have := ih (R.setUn v none)
    rw [set_none_comm] at this
    exact this
theorem Rel.clr {xs : List Nat} (R : Rel g xa F0 H0 F σ H env) : Rel g xa F0 H0 F σ H (EV.clr env xs) := by
  induction xs generalizing env with
  | nil => exact R
  | cons v vs ih =>
    refine ih ?_
    have h := R.setUn v (σ[v]?.getD none)
    have e : σ.set v (σ[v]?.getD none) = σ := by
      apply List.ext_getElem?
      intro j
      rw [get_set]
      by_cases h : v = j
      · subst h
        rw [if_pos rfl]
        by_cases hl : v < σ.length
        · rw [if_pos hl, List.getElem?_eq_getElem hl]
          rfl
        · rw [if_neg hl, List.getElem?_eq_none (by simpa using hl)]
      · rw [if_neg h]
    rw [e] at h
    exact h
theorem wipe_set {σ : L2.St} {v : Nat} {x : Option V} : ∀ {vs : List Nat}, v ∈ vs → L2.wipe (σ.set v x) vs = L2.wipe σ vs
  | w :: vs, h => by
    unfold L2.wipe
    by_cases hw : v ∈ vs
    · rw [wipe_set hw]
    · have e : v = w := by rcases List.mem_cons.mp h with e | e; exact e; exact absurd e hw
      subst e
      have q : ∀ us : List Nat, (L2.wipe (σ.set v x) us).set v none = (L2.wipe σ us).set v none := fun us => by
        induction us with
        | nil => show (σ.set v x).set v none = σ.set v none; rw [List.set_set]
        | cons u us ih =>
          unfold L2.wipe
          by_cases hu : v = u
          · subst hu
            rw [List.set_set, List.set_set]
            exact ih
          · rw [List.set_comm _ _ (Ne.symm hu), ih, List.set_comm _ _ hu]
      exact q vs
def rdG (g : Gh) (xa : Option (Addr × Value × Option Addr)) (tg : Tg) : TG := fun v σ H Q => ∃ F0 H0 F env x e', Rel g xa F0 H0 F σ H env ∧ RepV g F v x ∧ tgB tg x env = some e' ∧
  ∀ σ', Rel g xa F0 H0 F σ' H e' → L2.wipe σ' (slots tg) = L2.wipe σ (slots tg) → Q σ' H
def rdGs (g : Gh) (xa : Option (Addr × Value × Option Addr)) (is : List Nat) : TGs := fun vs σ H Q => ∃ F0 H0 F env xs e', Rel g xa F0 H0 F σ H env ∧ RepVs g F vs xs ∧ updL env is xs = some e' ∧
  ∀ σ', Rel g xa F0 H0 F σ' H e' → (∀ ys, (∀ i ∈ is, i ∈ ys) → L2.wipe σ' ys = L2.wipe σ ys) → Q σ' H
end
def SG (S : Sg) (sc : Scope) (q : Nat) (te : Expr) (tg : Tg) : Prop := ∀ xa W X, CxO S sc q xa W X → PG X te (rdG S.g xa tg)
def SGs (S : Sg) (sc : Scope) (q : Nat) (ts : List Expr) (is : List Nat) : Prop := ∀ xa W X, CxO S sc q xa W X → PGs X ts (rdGs S.g xa is)
/-- the name may be stored to: a local, or an own cell -/
def StoS (S : Sg) (sc : Scope) (x : Str) : Bool := match sc.names.lookup x with | some .local => true | some .cell => S.fn x | _ => false
theorem stoS {S : Sg} {sc : Scope} {X : Cx} {x : Str} (hs : X.env.scope = sc) (hf : X.fn = S.fn) (h : StoS S sc x = true) : Loc X.env.scope x ∧ (X.fn x = true ∨ X.env.scope.names.lookup x = some .local) := by
  rw [hs, hf]
  unfold StoS at h
  split at h
  · rename_i e; exact ⟨.inl e, .inr e⟩
  · rename_i e; exact ⟨.inr e, .inl h⟩
  · cases h
section
variable {S : Sg} {sc : Scope} {q : Nat} {pos : Pos}
theorem SG.v {x : Str} (i : Nat) (hN : S.N[i]? = some x) (hs : StoS S sc x = true) : SG S sc q (.Name x pos) (.v i) := fun xa W X C => by
  obtain ⟨h1, h2⟩ := stoS C.sc C.fn hs
  refine ⟨fun pins s σ H v u Q I r h => (pg_name (i := i) (by rw [C.N]; exact C.nd) (by rw [C.N]; exact hN) h1 h2).run pins s σ H v u Q I r ?_⟩
  obtain ⟨F0, H0, F, env, x, e', R, rv, e, q⟩ := h
  simp only [tgB, Option.some.injEq] at e
  subst e
  exact q _ (R.setSh i rv) (wipe_set (by simp [slots]))
theorem SGs.nil : SGs S sc q [] [] := fun xa W X C => by
  refine ⟨fun pins s σ H vs us Q I r h => pgs_nil.run pins s σ H vs us Q I r ?_⟩
  obtain ⟨F0, H0, F, env, xs, e', R, rv, e, q⟩ := h
  cases rv with
  | nil =>
    simp only [updL, Option.some.injEq] at e
    subst e
    exact ⟨rfl, q σ R fun _ _ => rfl⟩
  | cons _ _ => simp [updL] at e
theorem SGs.cons {x : Str} {ts : List Expr} {is : List Nat} (i : Nat) (hN : S.N[i]? = some x) (hs : StoS S sc x = true) (ht : SGs S sc q ts is) : SGs S sc q (.Name x pos :: ts) (i :: is) := fun xa W X C => by
  obtain ⟨h1, h2⟩ := stoS C.sc C.fn hs
  refine ⟨fun pins s σ H vs us Q I r h => (pgs_cons (pg_name (i := i) (by rw [C.N]; exact C.nd) (by rw [C.N]; exact hN) h1 h2) (ht xa W X C)).run pins s σ H vs us Q I r ?_⟩
  obtain ⟨F0, H0, F, env, xs, e', R, rv, e, q⟩ := h
  cases rv with
  | nil => simp [updL] at e
  | cons rv rr =>
    refine ⟨_, _, rfl, ?_⟩
    simp only [updL] at e
    exact ⟨F0, H0, F, _, _, e', R.setSh i rv, rr, e, fun σ' R' hw => q σ' R' fun ys hy => (hw ys fun j hj => hy j (List.mem_cons_of_mem _ hj)).trans (wipe_set (hy i List.mem_cons_self))⟩
theorem updL_len {env e' : Env} {is : List Nat} {xs : List PV} (h : updL env is xs = some e') : is.length = xs.length := by
  induction is generalizing env xs with
  | nil => cases xs with
    | nil => rfl
    | cons _ _ => simp [updL] at h
  | cons i is ih => cases xs with
    | nil => simp [updL] at h
    | cons x xs => simp only [updL] at h; simp [ih h]
theorem asg_len {X : Cx} {es : List Expr} (h : es.all plE = true) : (assignEach es X.env).length = es.length ∧ (assignEach es X.env).findIdx? (·.1) = none := by
  induction es with
  | nil => exact ⟨rfl, rfl⟩
  | cons e es ih =>
    simp only [List.all_cons, Bool.and_eq_true] at h
    obtain ⟨h1, h2⟩ := ih h.2
    have e1 : assignEach (e :: es) X.env = (false, assign e X.env) :: assignEach es X.env := by
      cases e <;> first | rfl | (simp [plE] at h)
    rw [e1]
    exact ⟨by simp [h1], by simp [List.findIdx?_cons, h2]⟩
theorem SG.t {es : List Expr} {is : List Nat} {k : Nat} (hq : 1 ≤ q) (hp : es.all plE = true) (hl : es.length = is.length) (h : SGs S sc q es is) : SG S sc q (.Tuple es k pos) (.t is) := fun xa W X C => by
  obtain ⟨l1, l2⟩ := asg_len (X := X) hp
  refine ⟨fun pins s σ H v u Q I r hh => ?_⟩
  obtain ⟨F0, H0, F, env, x, e', R, rv, e, qq⟩ := hh
  cases rv with
  | tup ha hz rs =>
    rename_i a vs xs
    simp only [tgB] at e
    refine (pg_tup (C.cl hq) (h xa W X C) l1 l2).run pins s σ H _ u Q I r ⟨_, _, rfl, .inl (.inl (tup_mono R.fx.fh ha)), ?_, F0, H0, F, env, _, e', R, rs, e, fun σ' R' hw => qq σ' R' (hw _ fun i hi => hi)⟩
    rw [rs.length, hl, updL_len e]
  | lst ha rs =>
    simp only [tgB] at e
    refine (pg_lst (C.cl hq) (h xa W X C) l1 l2).run pins s σ H _ u Q I r ⟨_, _, rfl, .inl (rd_mono R.fx.fh ha), ?_, F0, H0, F, env, _, e', R, rs, e, fun σ' R' hw => qq σ' R' (hw _ fun i hi => hi)⟩
    rw [rs.length, hl, updL_len e]
  | _ => simp [tgB] at e
end
end EV
set_option Elab.async false
set_option linter.all false
set_option maxRecDepth 100000
set_option maxHeartbeats 2000000
/-! EVl: list comprehensions of one clause. -/
namespace EV
open PySem PySem.Spec PyProof.Rows L2

def nq (nx : Bool) (r : Rs) : Rs := if nx = true then r.nox else r
theorem _root_.L2.PTs.imp {X : Cx} {e : List Expr} {t t' : TT} (h : PTs X e t) (i : ∀ σ H Q, t' σ H Q → t σ H Q) : PTs X e t' := ⟨fun pins s σ H Q I q => h.run pins s σ H Q I (i σ H Q q)⟩
section
variable {g : Gh} {xa : Option (Addr × Value × Option Addr)} {W W' : WX} {σ σ' : L2.St} {F H F1 H1 : Hp} {Q Q' : VK}
/-- what a turn's part gives: by the result, from the whole's wish at the walk's start -/
theorem nq_part {nx : Bool} (hW : nx = false → W' = fun c d _ H => W c d σ H) {r : Rs} {k : Rs → Rs} (hk : ∀ x, k (.ex x) = .ex x) (hb : k .bad = .bad) (p : PostE g W σ F1 H1 (k (nq nx r)) Q) (ex : Ext H1 H) (fx : Fx F1 H1 F H)
    (h : ∀ m x, r = .ok m x → ∀ v F' H', Ext H H' → Fx F H F' H' → VRep g m H F' H' v x → Q' v H') : PostE g W' σ' F H r Q' := by
  cases r with
  | ok m x => exact fun v F' H' e f vr => h m x rfl v F' H' e f vr
  | ex x =>
    cases nx with
    | true =>
      have e : nq true (.ex x) = .bad := rfl
      rw [e, hb] at p
      exact p.elim
    | false =>
      have e : nq false (.ex x) = .ex x := rfl
      rw [e, hk] at p
      rw [hW rfl]
      exact fun d F' H' e f xr => p d F' H' (ex.trans e) (Fx.trans ex fx f) xr
  | bad =>
    have e : nq nx .bad = .bad := by cases nx <;> rfl
    rw [e, hb] at p
    exact p.elim
theorem Fx.upD {D : Addr} {o : HO} (fx : Fx F1 H1 F H) (hD : F D = Option.none) : Fx F1 H1 F (upd H D o) :=
  ⟨fx.ff, fun a u e => by
    have hne : a ≠ D := fun h => by rw [h, hD] at e; cases e
    rw [upd_ne hne]
    exact fx.fh a u e, fx.nw⟩
theorem Ext.upD {D : Addr} {o : HO} (e : Ext H1 H) (hD : H1 D = none) : Ext H1 (upd H D o) := fun a u h => by
  have hne : a ≠ D := fun h2 => by rw [h2, hD] at h; cases h
  rw [upd_ne hne]
  exact e a u h
def oT (o : Option Env) (f : Env → Rs) : Rs := ofO (o.map f)
end
section
variable {g : Gh} {xa : Option (Addr × Value × Option Addr)} {W W' : WX} {σ : L2.St} {H : Hp} {Q : VK}
theorem wipe_wipe (σ : L2.St) : ∀ vs : List Nat, L2.wipe (L2.wipe σ vs) vs = L2.wipe σ vs
  | [] => rfl
  | v :: vs => by
    show (L2.wipe ((L2.wipe σ vs).set v none) vs).set v none = (L2.wipe σ vs).set v none
    rw [set_none_comm, wipe_wipe σ vs, List.set_set]
theorem Rel.step {F0 H0 F H F' H' : Hp} {env : Env} (R : Rel g xa F0 H0 F σ H env) (e : Ext H H') (f : Fx F H F' H') : Rel g xa F0 H0 F' σ H' env := R.mono e f
theorem lc_red {nx : Bool} {k : IK} {tg : Tg} {src : Env → Rl} {fe ft : Env → Rs} (hW : nx = false → W' = fun c d _ H => W c d σ H)
    (h : rd g xa W (fun env => (src env).bind fun _ vs => ofO ((itm k vs).map fun xs => turns (fun x => nq nx (oT (tgB tg x (EV.clr env (slots tg))) fe)) (fun x => nq nx (oT (tgB tg x (EV.clr env (slots tg))) ft)) xs [])) σ H Q) :
    tLc (rdI g xa W k src) (rdG g xa tg) (rdT g xa W' ft) (rd g xa W' fe) (slots tg) σ H Q := by
  obtain ⟨F0, H0, F, env, R, p⟩ := h
  show rdI g xa W k src σ H _
  refine ⟨F0, H0, F, env, R, ?_⟩
  dsimp only at p
  cases es : src env with
  | bad => rw [es] at p; exact p.elim
  | ex x => rw [es] at p; exact p
  | ok n vs =>
    rw [es] at p
    simp only [Rl.bind] at p
    simp only [PostI]
    cases ei : itm k vs with
    | none => rw [ei] at p; exact p.elim
    | some xs =>
      rw [ei] at p
      intro J F1 H1 ex fx wk hlen D hD
      have p1 : PostE g W σ F1 H1 (turns (fun x => nq nx (oT (tgB tg x (EV.clr env (slots tg))) fe)) (fun x => nq nx (oT (tgB tg x (EV.clr env (slots tg))) ft)) xs []) Q := PostE.go ex fx p
      have R1 := (R.mono ex fx).wipe (xs := slots tg)
      have nF1 : F1 D = none := Fx.none fx.fh hD
      clear p R
      generalize hf : (fun x => nq nx (oT (tgB tg x (EV.clr env (slots tg))) fe)) = f at p1
      generalize ht : (fun x => nq nx (oT (tgB tg x (EV.clr env (slots tg))) ft)) = t at p1
      let Inv := fun (i : Nat) (Hc : Hp) => ∃ (F' : Hp) (acc : List PV) (ys : List V), Ext H1 Hc ∧ Fx F1 H1 F' Hc ∧ F' D = none ∧ Hc D = some (.lst ys) ∧ RepVs g F' ys acc ∧ PostE g W σ F1 H1 (turns f t (xs.drop i) acc) Q ∧ ys.length ≤ i
      refine ⟨fun i m Hc => m + i = xs.length ∧ Inv i Hc, ⟨xs.length, rfl, F1, [], [], (Ext.refl H1).upD hD, (Fx.refl fx.fh).upD nF1, nF1, upd_same, .nil, p1, Nat.le_refl _⟩, ?_⟩
      rintro i m Hc ⟨hm, F', acc, ys, e1, f1, nD, hc, ra, pp, hl⟩
      have wki := wk i F' Hc f1.ff f1.fh fun _ => e1
      by_cases hlt : i < xs.length
      · refine .inr ?_
        have hx : xs[i]? = some xs[i] := List.getElem?_eq_getElem hlt
        generalize hxv : xs[i] = x at hx
        obtain ⟨hgo, hyld⟩ := wki.1 x hx
        have hdrop : xs.drop i = x :: xs.drop (i + 1) := by rw [List.drop_eq_getElem_cons hlt, hxv]
        rw [hdrop] at pp
        refine ⟨hgo, Inv (i + 1), fun H' hi => ⟨m - 1, by omega, by omega, hi⟩, fun v H' hy => ?_⟩
        obtain ⟨F2, ex2, fx2, rv⟩ := hyld v H' hy
        have e2 := e1.trans ex2
        have f2 := Fx.trans e1 f1 fx2
        have hD2 : H' D = some (.lst ys) := ex2 D _ hc
        have nD2 : F2 D = none := fx2.stay ex2 hc (fun _ z => by cases z) nD
        have R2 : Rel g xa F0 H0 F2 (L2.wipe σ (slots tg)) H' (EV.clr env (slots tg)) := R1.mono e2 f2
        -- the target
        have pt : PostE g W σ F1 H1 ((t x).cond ((f x).kp fun v => turns f t (xs.drop (i + 1)) (acc ++ [v])) (turns f t (xs.drop (i + 1)) acc)) Q := pp
        have tx : t x = nq nx (oT (tgB tg x (EV.clr env (slots tg))) ft) := by rw [← ht]
        have fxx : f x = nq nx (oT (tgB tg x (EV.clr env (slots tg))) fe) := by rw [← hf]
        cases eb : tgB tg x (EV.clr env (slots tg)) with
        | none =>
          rw [eb] at tx
          have e : t x = .bad := by rw [tx]; cases nx <;> rfl
          rw [e] at pt
          exact pt.elim
        | some e' =>
          rw [eb] at tx fxx
          have tx : t x = nq nx (ft e') := tx
          have fxx : f x = nq nx (fe e') := fxx
          refine ⟨F0, H0, F2, _, x, e', R2, rv, eb, fun σ2 R3 hw => ⟨hw.trans (wipe_wipe _ _), ?_⟩⟩
          · refine ⟨F0, H0, F2, e', R3, ?_⟩
            rw [tx] at pt
            refine nq_part hW (k := fun r => r.cond _ _) (fun _ => rfl) rfl pt e2 f2 fun mt xt et vt F3 H3 ex3 fx3 rt => ?_
            have e3 := e2.trans ex3
            have f3 := Fx.trans e2 f2 fx3
            have hD3 : H3 D = some (.lst ys) := ex3 D _ hD2
            have nD3 : F3 D = none := fx3.stay ex3 hD2 (fun _ z => by cases z) nD2
            have en : nq nx (ft e') = .ok mt xt := by rw [et]; cases nx <;> rfl
            rw [en] at pt
            cases xt with
            | bl b =>
              refine ⟨b, rt.b.bl, ?_⟩
              cases b with
              | false =>
                rw [if_neg Bool.false_ne_true]
                exact ⟨F3, acc, ys, e3, f3, nD3, hD3, ra.mono (fx2.ff.trans fx3.ff), pt, by omega⟩
              | true =>
                rw [if_pos rfl]
                refine ⟨F0, H0, F3, e', R3.mono ex3 fx3, ?_⟩
                have pt : PostE g W σ F1 H1 ((f x).kp fun v => turns f t (xs.drop (i + 1)) (acc ++ [v])) Q := pt
                rw [fxx] at pt
                refine nq_part hW (k := fun r => r.kp _) (fun _ => rfl) rfl pt e3 f3 fun m4 x4 e4 v4 F4 H4 ex4 fx4 r4 => ?_
                have en : nq nx (fe e') = .ok m4 x4 := by rw [e4]; cases nx <;> rfl
                rw [en] at pt
                have hm4 : m4 ≠ .bo := fun z => by subst z; exact pt.elim
                have pt : PostE g W σ F1 H1 (turns f t (xs.drop (i + 1)) (acc ++ [x4])) Q := by
                  cases m4 with
                  | bo => exact absurd rfl hm4
                  | sh => exact pt
                  | fr => exact pt
                obtain ⟨F5, fx5, ff5, r5⟩ := VRep.keep hm4 fx4 r4
                have hD4 : H4 D = some (.lst ys) := ex4 D _ hD3
                have nD5 : F5 D = none := fx5.stay ex4 hD3 (fun _ z => by cases z) nD3
                have f5 := Fx.trans e3 f3 fx5
                refine ⟨ys, hD4, ?_, F5, acc ++ [x4], ys ++ [v4], (e3.trans ex4).upD hD, f5.upD nD5, nD5, upd_same, ?_, pt, ?_⟩
                · rw [sizeLine_eq]
                  have : xs.length ≤ 16777216 := hlen
                  omega
                · exact (ra.mono ((fx2.ff.trans fx3.ff).trans fx5.ff)).append (.cons r5 .nil)
                · rw [List.length_append]
                  show ys.length + 1 ≤ i + 1
                  omega
            | _ => exact pt.elim
      · refine .inl ⟨wki.2 (by omega), ?_⟩
        have hdrop : xs.drop i = [] := List.drop_eq_nil_of_le (by omega)
        rw [hdrop] at pp
        exact pp (.ref D) F' Hc e1 f1 ⟨D, rfl, hD, nD, by rw [hc]; exact ⟨ys, rfl, ra⟩⟩
end
end EV
set_option Elab.async false
set_option linter.all false
set_option maxRecDepth 100000
set_option maxHeartbeats 2000000
/-! EVm: the block of a comprehension; comprehensions that raise nothing. -/
namespace EV
open PySem PySem.Spec PyProof.Rows L2

def Sg.blk (S : Sg) (scope : Scope) : Sg := { S with fn := fun x => scope.names.lookup x == some .cell }
theorem KN.cast {g : Gh} {X Y : Cx} {call : Nat → List PV → Rs} (h : KN g X call) (h1 : Y.prog = X.prog) (h2 : Y.w = X.w) (h3 : Y.K = X.K) (h4 : Y.mg = X.mg) (h5 : Y.base = X.base) (h6 : Y.A = X.A) : KN g Y call := fun f => by
  obtain ⟨lev, fd, ps, F, hr, hk, hb⟩ := h f
  refine ⟨lev, fd, ps, ?_, ?_, ?_, ?_⟩
  · rw [h1, h2, h3, h4, h5]; exact F
  · rw [h6]; exact hr
  · rw [h3]; exact hk
  · rw [h3]; exact hb
section
variable {S : Sg} {sc : Scope} {q : Nat} {xa : Option (Addr × Value × Option Addr)} {W W' : WX} {X : Cx}
theorem CxO.blk (C : CxO S sc q xa W X) (hq : 1 ≤ q) {s : Shared} {H : Hp} {scope : Scope} {cl : List (Str × Addr)} {A : Addr} {fp : List Addr} {xe : Value → Shared → Prop}
    (hp : ∀ σ, PassesAt (L2.CX X.prog X.w) { X.blk s H scope (compEnvC scope cl A X.env) fp with xe := xe } σ (WE W' σ)) :
    CxO (S.blk scope) (relS scope sc) 1 xa W' { X.blk s H scope (compEnvC scope cl A X.env) fp with xe := xe } where
  K := C.K
  un := C.un
  N := C.N
  nd := C.nd
  mg := C.mg
  sc := by rw [← C.sc]; rfl
  cl := fun _ => C.cl hq
  kn := fun _ => (C.kn hq).cast rfl rfl rfl rfl rfl rfl
  pas := fun _ => hp
  xn := fun _ => C.xn hq
  fn := rfl
  own := fun h => absurd rfl h
  top := fun h => absurd h (by decide)
  xs := fun a c d e => by rw [C.xn hq] at e; cases e
/-- a clause's tests -/
def SC (S : Sg) (sc : Scope) (q : Nat) (ifs : List Expr) (irs : IRs) : Prop := ∀ xa W X, CxO S sc q xa W X → PTs X ifs (rdT S.g xa W fun env => evC S.EC irs env)
theorem SC.nil : SC S sc q [] .nil := fun xa W X C => pts_nil.imp fun σ H Q ⟨F0, H0, F, env, R, p⟩ => by
  obtain ⟨b, e, q⟩ := (show PostE S.g W σ F H (.ok .sh (.bl true)) _ from p) (.bl true) F H (.refl H) (.refl R.fx.fh) (.bl true)
  cases e
  exact q
theorem SC.one {c : Expr} {ic : IR} (h : ST S sc q c ic) : SC S sc q [c] (.cons ic .nil) := fun xa W X C => pts_one (h xa W X C)
theorem notEx (X : Cx) (σ : L2.St) : PassesAt (L2.CX X.prog X.w) X σ (WE (fun _ _ _ _ => False) σ) := fun _ _ _ _ _ _ ⟨_, _, _, _, _, _, _, _, _, _, _, _, h⟩ => h.elim
theorem SE.lc {elt tg iter : Expr} {ifs : List Expr} {scope : Scope} {pos : Pos} {k : IK} {t : Tg} {isrc icond : IRs} {ielt : IR} (own : List (Str × Nat)) (hq : 1 ≤ q) (hs : ∀ env x, foldedSetIterable iter env x = pure x) (hb : blkC S.N sc scope own = true) (ho : own.map (·.2) = slots t)
    (hi : SI S sc q tg iter k isrc) (hg : SG (S.blk scope) (relS scope sc) 1 tg t) (hc : SC (S.blk scope) (relS scope sc) 1 ifs icond) (he : SE (S.blk scope) (relS scope sc) 1 elt ielt) :
    SE S sc q (.ListComp elt [⟨tg, iter, ifs, 0⟩] scope pos) (.lc t k isrc icond ielt) := fun xa W X C => by
  have cb : ∀ (s : Shared) (H : Hp) (A : Addr) (cl : List (Str × Addr)) (fp : List Addr), CxO (S.blk scope) (relS scope sc) 1 xa (fun _ _ _ _ => False) (X.blk s H scope (compEnvC scope cl A X.env) fp) := fun s H A cl fp => C.blk hq (xe := fun _ _ => False) fun σ => notEx _ σ
  refine (pe_lc (C.cl hq) (by rw [C.N]; exact C.nd) (hi xa W X C) (blkOk_by (own := own) (by rw [C.N, C.sc]; exact hb)) (fun s H A cl fp => hg xa _ _ (cb s H A cl fp)) (fun s H A cl fp => hc xa _ _ (cb s H A cl fp)) (fun s H A cl fp => he xa _ _ (cb s H A cl fp)) (hs X.env)).imp fun σ H Q h => ?_
  rw [ho]
  refine lc_red (nx := true) (fun z => nomatch z) ?_
  obtain ⟨F0, H0, F, env, R, p⟩ := h
  simp only [ev, fin] at p
  exact ⟨F0, H0, F, env, R, p⟩
end
end EV
set_option Elab.async false
set_option linter.all false
set_option maxRecDepth 100000
set_option maxHeartbeats 2000000
/-! EVn: a comprehension out of whose element an exception may fly. -/
namespace EV
open PySem PySem.Spec PyProof.Rows L2

/-- what is wanted where the block of a comprehension ends: ce its frame's environment -/
def blkEnd (M : Model) (A : Around) (E : Value → Shared → Prop) (Q : Value → Shared → Prop) (acc : Value) (ce : PySem.Env) (r : Result) (t : Shared) : Prop :=
  match r with
  | .ok _ => ∃ m, t.heap.Ns ce.locals m ∧ ∀ h', Heap.SameBut ce.locals t.heap h' → Q acc { t with heap := h' }
  | .error x => ∃ m, t.heap.Ns ce.locals m ∧ ∀ h', Heap.SameBut ce.locals t.heap h' → ∀ c2 : PySem.Env, c2.locals = ce.locals → c2.frame = ce.frame →
      wpAny M A (PySem.passOn "comprehension.variables-let-go" x c2 : Sem Value) (fun _ _ => False) E { t with heap := h' }

section
variable {M : Model} {A : Around} {E : Value → Shared → Prop} {s : Shared} {env : PySem.Env}
/-- a comprehension, no stores exchanged: what its block must reach -/
theorem comp_runs {e : Expr} {scope : Scope} {pos : Pos} {mk first : Sem Value} {g0 : Comprehension} {gr : List Comprehension} {cl : List (Str × Addr)} {Q : Value → Shared → Prop}
    (hcl : clausesOf e = g0 :: gr) (hs : ∀ x, foldedSetIterable g0.iter env x = pure x) (hclos : closureFor scope env = pure cl) (hkind : scope.kind = .function)
    (hnames : ∀ y ∈ scope.names, y.2 = .local → scope.names.lookup y.1 = some .local)
    (h : wpAny M A first (fun x s1 => wpAny M A (pyIter x) (fun it s2 => wpAny M A mk (fun acc s3 => wpAny M A (newFunctionEnv scope env.globals cl [] env.qual none .none (some env)) (fun ce s4 =>
      codeAny M A (.compStart e 0 it acc { ce with scope := relabel scope env }) (blkEnd M A E Q acc ce) s4) E s3) E s2) E s1) E s) :
    wpAny M A (comprehension e scope env pos mk false first none) Q E s := by
  unfold comprehension
  rw [hclos, hcl]
  have nx : ∀ {α : Type} {p : Sem α} {P : α → Shared → Prop} {P' : α → Shared → Prop} {t : Shared}, wpAny M A p P E t → (∀ a u, P a u → P' a u) → wpAny M A p P' E t := fun w k => wpAny_mono w k fun _ _ z => z
  refine wpAny_bind (nx h fun x s1 h1 => wpAny_bind (wpAny_standAt (wpAny_bind (wpAny_of_eq (hs x) (wpAny_bind (wpAny_holding (nx h1 fun it s2 h2 => ?_)))))))
  refine wpAny_standIf (wpAny_bind (nx h2 fun acc s3 h3 => wpAny_bind (wpAny_pure (wpAny_bind (nx h3 fun ce s4 h4 => ?_)))))
  dsimp only
  have hv : ∀ y ∈ (scope.names.filter fun y => (y.2 == .local || y.2 == .cell) && y.1 != (".0" : Str)).reverse, y.2 = .local → PySem.Env.kindOf { ce with scope := relabel scope env } y.1 = some .local :=
    fun y hy hl => lookup_relabel_local (hnames y (List.mem_filter.mp (List.mem_reverse.mp hy)).1 hl)
  refine wpAny_holding (wpAny_bind (wpAny_attempt (wpAny_holding (wpAny_run (codeAny_mono h4 fun r t hr => ?_)))))
  cases r with
  | ok f =>
    obtain ⟨m, hn, k⟩ := hr
    exact wpAny_bind (wpAny_holding (wpAny_comp_letGo (cenv := { ce with scope := relabel scope env }) hkind _ t m hv hn fun h' m' _ sb => wpAny_pure (k h' sb)))
  | error x =>
    obtain ⟨m, hn, k⟩ := hr
    exact wpAny_bind (wpAny_holding (wpAny_comp_letGo (cenv := { ce with scope := relabel scope env }) hkind _ t m hv hn fun h' m' _ sb => nx (k h' sb { ce with scope := relabel scope env } rfl rfl) fun _ _ z => z.elim))
end
/-- noting a frame: by the frame alone -/
theorem note_frame {a b : PySem.Env} (h : a.frame = b.frame) (e : Value) : noteFrame e a = noteFrame e b := by
  unfold noteFrame PySem.frameOf
  rw [h]
theorem ff_but {B B' h h' : Heap} : ∀ {l : List PySem.Env}, h.FunFrames B l → (∀ b ∈ frs l, ∀ o, h.get? b = some o → h'.get? b = some o) → (∀ b, B.get? b = none → B'.get? b = none) → h'.FunFrames B' l
  | [], _, _, _ => trivial
  | env :: l, ⟨hk, ⟨L, o, hf, hn, ho, hd⟩, hr⟩, k, kb =>
    ⟨hk, ⟨L, o, hf, kb L hn, k L (List.mem_filterMap.mpr ⟨env, List.mem_cons_self, hf⟩) o ho, hd⟩, ff_but hr (fun b hb => k b (by
      obtain ⟨e, he, q⟩ := List.mem_filterMap.mp hb
      exact List.mem_filterMap.mpr ⟨e, List.mem_cons_of_mem _ he, q⟩)) kb⟩

section
variable {X : Cx} {W : WX} {pins : List (Addr × Obj)} {σ : L2.St} {H3 : Hp} {s3 : Shared} {scope : Scope} {cl : List (Str × Addr)} {fp : List Addr} {Q : Value → Shared → Prop} {acc : Value}
/-- what a call in the block lets out flies on out of the comprehension -/
theorem blk_passes (hs : X.stack = X.env :: X.outer) (hf : X.env.frame = some X.env.locals) (tk : Takes X W) (I3 : Inv X pins σ H3 s3) (f3 : ∀ b ∈ fp, FpOk X pins H3 b)
    (ce0 : PySem.Env) (hl : ce0.locals = s3.heap.objs.size) (hfr0 : ce0.frame = X.env.frame) (σ2 : L2.St) :
    PassesAt (L2.CX X.prog X.w) { X.blk s3 H3 scope (compEnvC scope cl s3.heap.objs.size X.env) fp with xe := notedBy (model X.prog X.w) X.A (compEnvC scope cl s3.heap.objs.size X.env) fun e t => blkEnd (model X.prog X.w) X.A X.xe Q acc ce0 (.error e) t } σ2
      (WE (fun c d _ H => W c d σ H) σ2) := by
  intro pins2 H2 s2 u s' I2 c
  obtain ⟨a, B0, _, _, _, e0, fl0, _⟩ := id c
  obtain ⟨a9, B, sI, pins', σ', H', cls, d, rfl, J, nb, up, sky, na, os, ag, w⟩ := XE.of_call (W := fun c d _ H => W c d σ H) I2 (fun _ _ _ h => h) c
  cases e0
  have fl : HandSPX.FlyingZ B X.stack a (Zc cls d) s'.heap := by
    obtain ⟨_, _, _, oe0, vs0, T0, oT0, ts0, g1, _, g2, g3, _, _, g4, g5, g6⟩ := fl0
    rcases sky with ⟨_, _, _, oe, vs, k1, _, k2, k3⟩ | fl | ⟨_, _, _, oe, vs, T, oT, ts, k1, _, k2, k3, _, _, k4, k5, k6⟩
    · rw [g1] at k1
      cases k1
      rw [g2] at k2
      cases k2
      rw [g3] at k3
      cases k3
    · exact fl
    · rw [g1] at k1
      cases k1
      rw [g2] at k2
      cases k2
      rw [g3] at k3
      cases k3
      rw [g4] at k4
      cases k4
      rw [g5] at k5
      cases k5
      rw [g6] at k6
      cases k6
  have hfr : X.A.frames = some (X.env :: X.outer) := by rw [I3.ok.frames, hs]
  rw [hs] at fl
  show wpAny _ _ (noteFrame (.ref a) (compEnvC scope cl s3.heap.objs.size X.env)) _ _ s'
  rw [note_frame (a := compEnvC scope cl s3.heap.objs.size X.env) (b := X.env) rfl (.ref a)]
  refine HandSPX.looks_onZ Zc.steady hfr hf fl fun h1 hh1 up1 => ?_
  have hC : s3.heap.objs.size ∉ frs X.stack := fun hm => by
    obtain ⟨_, o, q, _⟩ := I3.stack.mem hm
    exact absurd (Heap.lt_size q) (Nat.lt_irrefl _)
  obtain ⟨m, hn, _⟩ := J.loc
  have hn : sI.heap.Ns s3.heap.objs.size m := hn
  refine ⟨m, ?_, fun h2 sb c2 hc2 hf2 => ?_⟩
  · rw [hl]
    exact hn.at fun o q => hh1.1 _ o (nb _ o q hC)
  · rw [hl] at sb
    have bC : ∃ oC, B.get? s3.heap.objs.size = some oC := by
      obtain ⟨o, es, ep, x, r⟩ := hn
      exact ⟨o, nb _ o x hC⟩
    obtain ⟨oC, hBC⟩ := bC
    -- the ground without the block's own dict
    have hB' : ∀ b o, (PySem.W.hideAll B [s3.heap.objs.size]).get? b = some o → b ≠ s3.heap.objs.size ∧ B.get? b = some o := fun b o q => ⟨fun e => (by
      subst e
      rw [PySem.W.hideAll_none _ List.mem_cons_self] at q
      cases q), PySem.W.of_hideAll _ q⟩
    have nB' : ∀ b, B.get? b = none → (PySem.W.hideAll B [s3.heap.objs.size]).get? b = none := fun b e => by
      cases q : (PySem.W.hideAll B [s3.heap.objs.size]).get? b with
      | none => rfl
      | some o => rw [(hB' b o q).2] at e; cases e
    have held2 : HandSPX.HeldZ (PySem.W.hideAll B [s3.heap.objs.size]) (X.env :: X.outer) a (Zc cls d) X.env.locals h2 := by
      obtain ⟨q1, q2, q3, oe, vs, T, oT, ts, g1, gz, g2, g3, gT, g4, g5, g6, g7⟩ := hh1
      have aC : a ≠ s3.heap.objs.size := fun e => by rw [e, hBC] at q2; cases q2
      have TC : T ≠ s3.heap.objs.size := fun e => by rw [e, hBC] at gT; cases gT
      refine ⟨fun b o q => ?_, nB' _ q2, ff_but q3 (fun b hb o q => ?_) nB', oe, vs, T, oT, ts, (sb.2 _ aC).trans g1, gz, g2, g3, nB' _ gT, g4, (sb.2 _ TC).trans g5, g6, g7⟩
      · obtain ⟨n1, n2⟩ := hB' b o q
        exact (sb.2 b n1).trans (q1 b o n2)
      · have n1 : b ≠ s3.heap.objs.size := fun e => hC (by rw [hs, ← e]; exact hb)
        exact (sb.2 b n1).trans q
    obtain ⟨q1, q2, q3, oe, vs, T, oT, ts, g1, gz, g2, g3, gT, g4, g5, g6, g7⟩ := id held2
    unfold PySem.passOn
    refine wpAny_bind (wpAny_field (s := { s' with heap := h2 }) g1 g2 g3 ?_)
    rw [if_neg (show ¬ ((Value.ref T == Value.none) = true) from by simp)]
    have fin : wpAny (model X.prog X.w) X.A (setFlight (.ref a) c2.frame) (fun _ s4 => wpAny (model X.prog X.w) X.A (throw (.ref a) : Sem Value) (fun _ _ => False) X.xe s4) X.xe { s' with heap := h2 } := by
      rw [hf2, hfr0, hf]
      refine HandSPX.setFlight_onZ held2 fun h4 hh4 up4 => wpAny_throw (tk _ _ ?_)
      -- the state without the exception and without the block's dict
      have nC : H' s3.heap.objs.size = none := J.free
      have I4 : Inv X pins σ H' sI := I3.call' (ch := fp) J.os J.base J.hok J.bare fun b hb => ⟨(f3 b hb).2.2.2.1, (f3 b hb).2.1, (f3 b hb).2.2.2.2.1, (f3 b hb).2.2.2.2.2⟩
      obtain ⟨_, c1, _, c3, c4, c5⟩ := I3.fpOk (Nat.le_refl _) nC
      have I5 : Inv X pins σ H' { sI with heap := PySem.W.hideAll sI.heap [s3.heap.objs.size], toks := sI.toks } := I4.turned (it := s3.heap.objs.size) (fun b o hb q => PySem.W.hideAll_get _ q (by simpa using hb)) nC c1 c3 c4 c5
      have hI : ∀ b o, (PySem.W.hideAll sI.heap [s3.heap.objs.size]).get? b = some o → b ≠ s3.heap.objs.size ∧ sI.heap.get? b = some o := fun b o q => ⟨fun e => (by
        subst e
        rw [PySem.W.hideAll_none _ List.mem_cons_self] at q
        cases q), PySem.W.of_hideAll _ q⟩
      refine ⟨a, _, _, pins, σ, H', cls, d, rfl, I5, fun b o q hb => ?_, fun b o q hd => ?_, .inr (.inr (by rw [hs]; exact hh4)), na, os, ag, w⟩
      · obtain ⟨n1, n2⟩ := hI b o q
        exact PySem.W.hideAll_get _ (nb b o n2 hb) (by simpa using n1)
      · obtain ⟨n1, n2⟩ := hI b o q
        obtain ⟨sl1, u1⟩ := up b o n2 hd
        obtain ⟨sl2, u2⟩ := up1 b _ u1 hd
        obtain ⟨sl3, u3⟩ := up4 b _ ((sb.2 b n1).trans u2) hd
        exact ⟨sl3, u3⟩
    first
      | exact wpAny_bind (wpAny_pure (wpAny_bind fin))
      | exact wpAny_bind fin
end
end EV
set_option Elab.async false
set_option linter.all false
set_option maxRecDepth 100000
set_option maxHeartbeats 2000000
/-! EVo: the raising comprehension, as a judgement. -/
namespace EV
open PySem PySem.Spec PyProof.Rows L2
section
variable {S : Sg} {sc : Scope} {q : Nat}
theorem SE.lcx {elt tg iter : Expr} {ifs : List Expr} {scope : Scope} {pos : Pos} {k : IK} {t : Tg} {isrc icond : IRs} {ielt : IR} (own : List (Str × Nat)) (hq : 2 ≤ q) (hs : ∀ env x, foldedSetIterable iter env x = pure x) (hb : blkC S.N sc scope own = true) (ho : own.map (·.2) = slots t)
    (hi : SI S sc q tg iter k isrc) (hg : SG (S.blk scope) (relS scope sc) 1 tg t) (hc : SC (S.blk scope) (relS scope sc) 1 ifs icond) (he : SE (S.blk scope) (relS scope sc) 1 elt ielt) :
    SE S sc q (.ListComp elt [⟨tg, iter, ifs, 0⟩] scope pos) (.lcx t k isrc icond ielt) := fun xa W X C => by
  obtain ⟨hst, hf, hex, tk⟩ := C.top hq
  have hq1 : 1 ≤ q := Nat.le_trans (by decide) hq
  have calm := C.cl hq1
  have hN : X.N.Nodup := by rw [C.N]; exact C.nd
  have ok : BlkOk X.N X.env.scope scope own := blkOk_by (by rw [C.N, C.sc]; exact hb)
  refine ⟨fun pins s σ H Q I h => ?_⟩
  have h1 : tLc (rdI S.g xa W k fun env => evs S.EC isrc env) (rdG S.g xa t) (rdT S.g xa (fun c d _ H => W c d σ H) fun env => evC S.EC icond env) (rd S.g xa (fun c d _ H => W c d σ H) fun env => ev S.EC false ielt env) (slots t) σ H Q := by
    refine lc_red (nx := false) (fun _ => rfl) ?_
    obtain ⟨F0, H0, F, env, R, p⟩ := h
    simp only [ev, fin] at p
    exact ⟨F0, H0, F, env, R, p⟩
  rw [← ho] at h1
  have hfree : ∀ y ∈ scope.names, y.2 = .free → ∃ c, X.env.cells.lookup y.1 = some c := fun y hy e => (ok.free y hy e).elim (fun k => I.ok.has _ (.inl k)) fun k => I.ok.has _ (.inr k)
  rw [eval_ListComp]
  refine comp_runs rfl (hs X.env) (closure_ok hfree) ok.kind (fun y hy e => by rw [ok.uniq y hy, e]) ?_
  refine thn ((hi xa W X C).run pins s σ H _ I h1) fun xv s1 hx => thn hx fun itv s2 h2 => ?_
  obtain ⟨it, fp, tn, J, H2, e, I2, T, st2, f2, qq⟩ := h2
  subst e
  refine wpAny_newObj_type (newEnv_comp ?_) (by show 0 ≤ sizeLine; decide)
  -- the new list, at D
  generalize hD : s2.heap.objs.size = D
  have nD : H2 D = none := I2.hok.fresh (Nat.le_of_eq hD)
  obtain ⟨Wv, ⟨m0, w0⟩, turn⟩ := qq D nD
  generalize hs3 : ({ s2 with heap := s2.heap.push { cls := .type "list", data := .seq ([] : List Value).toArray } } : Shared) = s3
  have e3 : s3.heap = s2.heap.push { cls := .type "list", data := .seq ([] : List Value).toArray } := by rw [← hs3]
  have I3 : Inv X pins σ (upd H2 D (.lst [])) s3 := by
    rw [← hs3]
    refine I2.laid (t' := s2.toks) (fun b o q => Heap.get?_push_of_some _ q) (Nat.le_of_eq hD) ⟨Nat.zero_le _, [], 0, .nil, ?_⟩
    rw [← hD]
    exact Heap.get?_push_size _ rfl
  have small : ∀ b ∈ fp, b < s2.heap.objs.size := fun b hb => by
    obtain ⟨o, q, _⟩ := T.obj _ _ st2 b hb
    exact Heap.lt_size q
  have f3 : ∀ b ∈ fp, FpOk X pins (upd H2 D (.lst [])) b ∧ b < s3.heap.objs.size := fun b hb => by
    have hlt := small b hb
    refine ⟨⟨?_, (f2 b hb).2⟩, by rw [e3, Heap.size_push]; exact Nat.lt_succ_of_lt hlt⟩
    rw [upd_ne (by rw [← hD]; exact Nat.ne_of_lt hlt)]
    exact (f2 b hb).1
  have st3 : tn 0 s3.heap := T.keep _ _ _ st2 fun b _ o q => by rw [e3]; exact Heap.get?_push_of_some _ q
  have I4 := block_start I3 ok hN f3
  generalize hH3 : upd H2 D (.lst []) = H3 at I3 I4 w0 f3
  generalize hcl : cellsFrom (s3.heap.objs.size + 1) scope.names (cloFrom X.env.cells scope.names []) = cl at I4
  -- the environment of the block
  generalize hce : PySem.newEnv scope s3.heap.objs.size X.env.globals cl X.env.qual none Value.none (some X.env) builtinsNs = ce0
  have hl0 : ce0.locals = s3.heap.objs.size := by rw [← hce]; rfl
  have hr0 : ce0.frame = X.env.frame := by rw [← hce]; rfl
  have hcc : ({ ce0 with scope := relabel scope X.env } : PySem.Env) = compEnvC scope cl s3.heap.objs.size X.env := by rw [← hce]; rfl
  rw [hcc]
  generalize hs4 : ({ s3 with heap := pushCells (s3.heap.push { cls := .type "dict", data := .dict #[] }) scope.names } : Shared) = s4 at I4 ⊢
  have st4 : tn 0 s4.heap := T.keep _ _ _ st3 fun b _ o q => by rw [← hs4]; exact pushCells_keeps _ _ _ _ (Heap.get?_push_of_some _ q)
  -- the block's context: its wish about exceptions
  have pas := blk_passes (scope := scope) (cl := cl) (Q := EP X pins σ Q) (acc := .ref D) hst hf tk I3 (fun b hb => (f3 b hb).1) ce0 hl0 hr0
  have cb := C.blk hq1 (s := s3) (H := H3) (scope := scope) (cl := cl) (A := s3.heap.objs.size) (fp := fp) (W' := fun c d _ H => W c d σ H) (xe := notedBy (model X.prog X.w) X.A (compEnvC scope cl s3.heap.objs.size X.env) fun e t => blkEnd (model X.prog X.w) X.A X.xe (EP X pins σ Q) (.ref D) ce0 (.error e) t) pas
  have pg := hg xa _ _ cb
  have pt := hc xa _ _ cb
  have pe := he xa _ _ cb
  clear hcc
  generalize hXB : ({ X.blk s3 H3 scope (compEnvC scope cl s3.heap.objs.size X.env) fp with xe := notedBy (model X.prog X.w) X.A (compEnvC scope cl s3.heap.objs.size X.env) fun e t => blkEnd (model X.prog X.w) X.A X.xe (EP X pins σ Q) (.ref D) ce0 (.error e) t } : Cx) = B at pg pt pe
  have b1 : B.prog = X.prog := by rw [← hXB]
  have b2 : B.w = X.w := by rw [← hXB]
  have b3 : B.K = X.K := by rw [← hXB]
  have b4 : B.calm = true := by rw [← hXB]; exact calm
  have b5 : B.A = X.A := by rw [← hXB]
  have b6 : B.env = compEnvC scope cl s3.heap.objs.size X.env := by rw [← hXB]
  have b7 : B.xe = notedBy (model X.prog X.w) X.A (compEnvC scope cl s3.heap.objs.size X.env) fun e t => blkEnd (model X.prog X.w) X.A X.xe (EP X pins σ Q) (.ref D) ce0 (.error e) t := by rw [← hXB]
  have toB : ∀ {ps : List (Addr × Obj)} {σ' : L2.St} {H' : Hp} {s' : Shared}, Inv (X.blk s3 H3 scope (compEnvC scope cl s3.heap.objs.size X.env) fp) ps σ' H' s' → Inv B ps σ' H' s' := fun {ps σ' H' s'} J => by
    rw [← hXB]
    exact J.wish _
  have ofB : ∀ {ps : List (Addr × Obj)} {σ' : L2.St} {H' : Hp} {s' : Shared}, Inv B ps σ' H' s' → Inv (X.blk s3 H3 scope (compEnvC scope cl s3.heap.objs.size X.env) fp) ps σ' H' s' := fun {ps σ' H' s'} J => by
    rw [← hXB] at J
    exact Inv.unwish (X := X.blk s3 H3 scope (compEnvC scope cl s3.heap.objs.size X.env) fp) J
  have nfp : ∀ b ∈ fp, H3 b = none := fun b hb => (f3 b hb).1.1
  have stat : ∀ {σ' : L2.St} {H' : Hp} {s' : Shared}, Inv B [] σ' H' s' → (∀ b ∈ fp, H' b = none) → ∀ b ∈ fp, FpOk B [] H' b := fun {σ' H' s'} J n b hb => by
    have J' := ofB J
    rw [← hXB]
    exact ⟨n b hb, (J'.ok.exf b hb).1, J'.ok.exfs b hb, .inl hb, fun x c e => (J'.ok.exf b hb).2 x c e, fun p hp => absurd (show p ∈ ([] : List (Addr × Obj)) ++ [] from hp) (by simp)⟩
  have loop : codeAny (model X.prog X.w) X.A (.compLoop (.ListComp elt [⟨tg, iter, ifs, 0⟩] scope pos) 0 (.ref it) (.ref D) (compEnvC scope cl s3.heap.objs.size X.env)) (blkEnd (model X.prog X.w) X.A X.xe (EP X pins σ Q) (.ref D) ce0) s4 := by
    refine compLoop_any (fun n s' => ∃ i H', Inv B [] (L2.wipe σ (own.map (·.2))) H' s' ∧ tn i s'.heap ∧ (∀ b ∈ fp, H' b = none) ∧ Wv i n H') ?_ m0 ⟨0, H3, toB I4, st4, nfp, w0⟩
    rintro n s5 ⟨i, H5, I5, st5, n5, w5⟩
    rcases turn i n H5 w5 with ⟨stop, qq⟩ | ⟨go, Nx, hNx, step⟩
    · have td := T.done B b1 b2 b3 b4 i [] s5 _ H5 (fun _ _ => False) I5 (stat I5 n5) st5 stop
      rw [b5] at td
      refine thnF td fun r s6 ⟨hr, I6⟩ => ?_
      subst hr
      have I6' := ofB I6
      have I7 : Inv X pins σ H5 s6 := I3.call' (ch := fp) I6'.os I6'.base I6'.hok I6'.bare fun b hb => ⟨(f3 b hb).1.2.2.2.1, (f3 b hb).1.2.1, (f3 b hb).1.2.2.2.2.1, (f3 b hb).1.2.2.2.2.2⟩
      have nC : H5 s3.heap.objs.size = none := I6'.free
      obtain ⟨m, hn, _⟩ := I6'.loc
      have hn : s6.heap.Ns s3.heap.objs.size m := hn
      refine ⟨m, by rw [hl0]; exact hn, fun h' sb => ?_⟩
      rw [hl0] at sb
      obtain ⟨f0, f1, _, f3', f4, f5⟩ := I3.fpOk (Nat.le_refl _) nC
      exact ⟨.ref D, H5, I7.turned (t' := s6.toks) (fun b o hb e => (sb.2 b hb).trans e) f0 f1 f3' f4 f5, rfl, qq⟩
    · have ti := T.item B b1 b2 b3 b4 i [] s5 _ H5 (fun _ _ => False) I5 (stat I5 n5) st5 go
      rw [b5] at ti
      refine thnF ti fun r s6 ⟨u, hr, h6⟩ => ?_
      subst hr
      refine thnF h6 fun _ s7 ⟨x, H7, I7, r7, y7, st7, n7⟩ => ?_
      have I7' := I7.pinned (stat I7 n7) (T.obj _ _ st7)
      have pgr := pg.run _ s7 _ H7 x u _ I7' r7 (step x H7 y7)
      rw [b1, b2, b5, b6, b7] at pgr
      refine thn pgr fun _ s8 ⟨σ8, H8, I8, hw8, q8⟩ => ?_
      have ptr := pt.run _ s8 σ8 H8 _ I8 q8
      rw [b1, b2, b5, b6, b7] at ptr
      refine thn ptr fun b s9 ⟨H9, I9, q9⟩ => ?_
      have fin : ∀ {s' : Shared} {H' : Hp}, Inv B ([] ++ pinsAt fp s7.heap) σ8 H' s' → Nx H' → ∃ m, m < n ∧ ∃ i H', Inv B [] (L2.wipe σ (own.map (·.2))) H' s' ∧ tn i s'.heap ∧ (∀ b ∈ fp, H' b = none) ∧ Wv i m H' := fun {s' H'} I' nx => by
        obtain ⟨m', hm, w'⟩ := hNx H' nx
        have pin' : ∀ b ∈ fp, ∀ o, s7.heap.get? b = some o → s'.heap.get? b = some o ∧ H' b = none := fun b hb o e =>
          let z := I'.pin (b, o) (List.mem_append_right _ (List.mem_append_right _ (mem_pinsAt hb e)))
          ⟨z.1, z.2.1⟩
        have hlen : (L2.wipe σ (own.map (·.2))).length = σ8.length := by rw [← hw8, wipe_length]
        refine ⟨m', hm, i + 1, H', (I'.unpinned (pins := [])).weak hlen (fun j v e => ?_), T.keep _ _ _ st7 fun b hb o e => (pin' b hb o e).1, fun b hb => ?_, w'⟩
        · rw [← hw8] at e
          exact (wipe_some e).1
        · obtain ⟨o, e, _⟩ := T.obj _ _ st7 b hb
          exact (pin' b hb o e).2
      cases b with
      | false => exact fin I9 q9
      | true =>
        simp only [if_true] at q9 ⊢
        have per := pe.run _ s9 σ8 H9 _ I9 q9
        rw [b1, b2, b5, b6, b7] at per
        refine thn per fun z s10 ⟨yv, H10, I10, r10, ac, hD10, hz10, nx⟩ => ?_
        have ap := app_ok (X := B) (E := fun _ _ => False) (Q := fun _ s5 => ∃ m, m < n ∧ ∃ i H', Inv B [] (L2.wipe σ (own.map (·.2))) H' s5 ∧ tn i s5.heap ∧ (∀ b ∈ fp, H' b = none) ∧ Wv i m H') I10 hD10 hz10 r10 fun s11 I11 => fin I11 nx
        rw [b1, b2, b5] at ap
        exact thnF ap fun _ _ z => z
  exact codeAny_compStart_list loop (T.self X.A 0 _ _ _ st4 loop)
end
end EV
set_option Elab.async false
set_option linter.all false
set_option maxRecDepth 100000
set_option maxHeartbeats 2000000
/-! EVp: statements: the plain ones. -/
namespace EV
open PySem PySem.Spec PyProof.Rows L2

/-- what is wanted behind a statement -/
def PostF (g : Gh) (xa : Option (Addr × Value × Option Addr)) (W : WX) (F0 H0 F : Hp) (r : Fl) (D : Ends) : Prop :=
  match r with
  | .nx e => ∀ σ F' H', FLe F F' → Rel g xa F0 H0 F' σ H' e → D.nx σ H'
  | .bk e => ∀ σ F' H', FLe F F' → Rel g xa F0 H0 F' σ H' e → D.bk σ H'
  | .ct e => ∀ σ F' H', FLe F F' → Rel g xa F0 H0 F' σ H' e → D.ct σ H'
  | .rt m v => ∀ u F' H', FLe F F' → Ext H0 H' → Fx F0 H0 F' H' → VRep g m H0 F' H' u v → D.rt u H'
  | .ex x e => ∀ d σ F' H', FLe F F' → Rel g xa F0 H0 F' σ H' e → XRep g F' d x → W (.ref (g.ca x.c)) d σ H'
  | .bad => False
def rdS (g : Gh) (xa : Option (Addr × Value × Option Addr)) (W : WX) (r : Env → Fl) : TS := fun D σ H => ∃ F0 H0 F env, Rel g xa F0 H0 F σ H env ∧ PostF g xa W F0 H0 F (r env) D
def SS (S : Sg) (sc : Scope) (q : Nat) (st : Stmt) (s : Sm) : Prop := ∀ xa W X, CxO S sc q xa W X → PS X st (rdS S.g xa W fun env => exec S.EC s env)
def SSs (S : Sg) (sc : Scope) (q : Nat) (sts : List Stmt) (s : Ss) : Prop := ∀ xa W X, CxO S sc q xa W X → PSs X sts (rdS S.g xa W fun env => execs S.EC s env)

section
variable {g : Gh} {xa : Option (Addr × Value × Option Addr)} {W : WX} {σ : L2.St} {F0 H0 F F1 H : Hp} {env : Env} {D D' : Ends} {Q : VK}
theorem PostF.mono {r : Fl} (f : FLe F F1) (p : PostF g xa W F0 H0 F r D) : PostF g xa W F0 H0 F1 r D := by
  cases r with
  | nx e => exact fun σ F' H' h R => p σ F' H' (f.trans h) R
  | bk e => exact fun σ F' H' h R => p σ F' H' (f.trans h) R
  | ct e => exact fun σ F' H' h R => p σ F' H' (f.trans h) R
  | rt m v => exact fun u F' H' h e x vr => p u F' H' (f.trans h) e x vr
  | ex x e => exact fun d σ F' H' h R xr => p d σ F' H' (f.trans h) R xr
  | bad => exact p
/-- a fresh value goes into a slot -/
theorem Rel.setOw {H1 : Hp} (R : Rel g xa F0 H0 F σ H env) (e : Ext H H1) (fx : Fx F H F1 H1) (i : Nat) {v : V} {x : PV} (r : VRep g .fr H F1 H1 v x) : Rel g xa F0 H0 F1 (σ.set i (some v)) H1 (env.set i (.ow x)) := by
  have R1 := R.mono e fx
  obtain ⟨p, rfl, h1, h2, h3⟩ := r
  have own : ∀ (j : Nat) (y : PV) (q : Addr), env[j]? = some (.ow y) → σ[j]? = some (some (.ref q)) → q ≠ p := fun j y q e1 e2 => by
    have h := R.sl j
    rw [e1] at h
    obtain ⟨q', e3, _, _, h4⟩ := h
    rw [e2] at e3
    cases e3
    obtain ⟨u, hu⟩ := h4.some
    intro z
    rw [z, h1] at hu
    cases hu
  refine ⟨R1.ext, R1.fx, by simp [R1.len], fun j => ?_, fun j k a b p' hjk e1 e2 e3 => ?_⟩
  · rw [get_set, get_set, R1.len]
    by_cases h : i = j
    · rw [if_pos h, if_pos h]
      by_cases hl : i < env.length
      · rw [if_pos hl, if_pos hl]
        exact ⟨p, rfl, R.ext.back h1, h2, h3⟩
      · rw [if_neg hl, if_neg hl]
        trivial
    · rw [if_neg h, if_neg h]
      exact R1.sl j
  · rw [get_set] at e1 e2 e3
    rw [get_set]
    rw [R1.len] at e3 ⊢
    by_cases hj : i = j
    · have hk : i ≠ k := fun z => hjk (hj.symm.trans z)
      rw [if_neg hk] at e2 ⊢
      rw [if_pos hj] at e1 e3
      split at e1
      · rename_i hl
        rw [if_pos hl] at e3
        cases e3
        exact fun z => own k b p e2 z rfl
      · cases e1
    · rw [if_neg hj] at e1 e3
      by_cases hk : i = k
      · rw [if_pos hk] at e2 ⊢
        split at e2
        · rename_i hl
          rw [if_pos hl]
          intro z
          have z' : V.ref p = V.ref p' := Option.some.inj (Option.some.inj z)
          cases z'
          exact own j a p e1 e3 rfl
        · cases e2
      · rw [if_neg hk] at e2 ⊢
        exact R1.ap j k a b p' hjk e1 e2 e3
/-- a value that is kept goes into a slot, as it is -/
theorem Rel.setV {H1 : Hp} {m : Md} (hm : m ≠ .bo) (R : Rel g xa F0 H0 F σ H env) (e : Ext H H1) (fx : Fx F H F1 H1) (i : Nat) {v : V} {x : PV} (r : VRep g m H F1 H1 v x) : Rel g xa F0 H0 F1 (σ.set i (some v)) H1 (env.set i (toSl m x)) := by
  cases m with
  | bo => exact absurd rfl hm
  | sh => exact (R.mono e fx).setSh i r
  | fr => exact R.setOw e fx i r
/-- what a slot owns is written -/
theorem Rel.put (R : Rel g xa F0 H0 F σ H env) {i : Nat} {x y : PV} {p : Addr} {o : HO} (hi : env[i]? = some (.ow x)) (hs : σ[i]? = some (some (.ref p))) (r : OwnC g F (some o) y) : Rel g xa F0 H0 F σ (upd H p o) (env.set i (.ow y)) := by
  have hsl := R.sl i
  rw [hi] at hsl
  obtain ⟨p', e1, n0, nF, hc⟩ := hsl
  rw [hs] at e1
  cases e1
  refine ⟨R.ext.upD n0, R.fx.upD nF, by simp [R.len], fun j => ?_, fun j k a b p' hjk e1 e2 e3 => ?_⟩
  · rw [get_set]
    by_cases h : i = j
    · subst h
      rw [if_pos rfl]
      have hl := (List.getElem?_eq_some_iff.mp hi).1
      rw [if_pos hl]
      exact ⟨p, hs, n0, nF, by rw [upd_same]; exact r⟩
    · rw [if_neg h]
      have hj := R.sl j
      revert hj
      cases ej : env[j]? with
      | none => exact fun _ => trivial
      | some sl =>
        cases sl with
        | un => exact fun _ => trivial
        | sh v => exact fun hj => hj
        | ow y' =>
          rintro ⟨q, h1, h2, h3, h4⟩
          have hne : q ≠ p := fun z => R.ap i j x y' p h hi ej hs (by rw [h1, z])
          exact ⟨q, h1, h2, h3, by rw [upd_ne hne]; exact h4⟩
        | xc c f => exact fun hj => hj
  · have q : ∀ (k : Nat) (b : PV), (env.set i (.ow y))[k]? = some (.ow b) → ∃ c, env[k]? = some (.ow c) := fun k b e => by
      rw [get_set] at e
      by_cases h : i = k
      · subst h
        exact ⟨x, hi⟩
      · rw [if_neg h] at e
        exact ⟨b, e⟩
    obtain ⟨a', e1⟩ := q j a e1
    obtain ⟨b', e2⟩ := q k b e2
    exact R.ap j k a' b' p' hjk e1 e2 e3
/-- what a slot owns is frozen -/
theorem Rel.frz1 (R : Rel g xa F0 H0 F σ H env) (i : Nat) : ∃ F', FLe F F' ∧ Rel g xa F0 H0 F' σ H (EV.frz1 env i) := by
  unfold EV.frz1
  split
  · rename_i x hi
    have hsl := R.sl i
    rw [hi] at hsl
    obtain ⟨p, hs, n0, nF, hc⟩ := hsl
    obtain ⟨u, hu⟩ := hc.some
    have ff : FLe F (upd F p u) := (Ext.new nF).fle
    have fh : FLe (upd F p u) H := fun a w e => by
      by_cases ha : a = p
      · subst ha
        rw [upd_same] at e
        cases e
        exact .inl hu
      · rw [upd_ne ha] at e
        exact R.fx.fh a w e
    refine ⟨upd F p u, ff, ⟨R.ext, ⟨R.fx.ff.trans ff, fh, fun a w e => ?_⟩, by simp [R.len], fun j => ?_, fun j k a b p' hjk e1 e2 e3 => ?_⟩⟩
    · by_cases ha : a = p
      · subst ha
        exact .inr (.inl n0)
      · rw [upd_ne ha] at e
        exact R.fx.nw a w e
    · rw [get_set]
      by_cases h : i = j
      · subst h
        rw [if_pos rfl, if_pos (List.getElem?_eq_some_iff.mp hi).1]
        rw [hu] at hc
        exact ⟨_, hs, hc.rep upd_same ff⟩
      · rw [if_neg h]
        have hj := R.sl j
        revert hj
        cases ej : env[j]? with
        | none => exact fun _ => trivial
        | some sl =>
          cases sl with
          | un => exact fun _ => trivial
          | sh v => exact fun ⟨v, h1, h2⟩ => ⟨v, h1, h2.mono ff⟩
          | ow y' =>
            rintro ⟨q, h1, h2, h3, h4⟩
            have hne : q ≠ p := fun z => R.ap i j x y' p h hi ej hs (by rw [h1, z])
            exact ⟨q, h1, h2, by rw [upd_ne hne]; exact h3, h4.mono ff⟩
          | xc c f =>
            rintro ⟨a, d, h1, h2, h3⟩
            refine ⟨a, d, h1, h2, ?_⟩
            cases f with
            | none => exact h3
            | some x =>
              obtain ⟨da, v, h4, h5, h6⟩ := h3
              refine ⟨da, v, h4, ?_, h6.mono ff⟩
              rcases ff da _ h5 with h7 | ⟨l, _⟩
              · exact h7
              · exact l.elim
    · have q : ∀ (k : Nat) (b : PV), (env.set i (.sh x))[k]? = some (.ow b) → env[k]? = some (.ow b) := fun k b e => by
        rw [get_set] at e
        by_cases h : i = k
        · rw [if_pos h] at e
          split at e <;> simp at e
        · rw [if_neg h] at e
          exact e
      exact R.ap j k a b p' hjk (q j a e1) (q k b e2) e3
  · exact ⟨F, .refl F, R⟩
theorem Rel.frzL : ∀ (is : List Nat) {F : Hp} {env : Env}, Rel g xa F0 H0 F σ H env → ∃ F', FLe F F' ∧ Rel g xa F0 H0 F' σ H (EV.frzL env is)
  | [], F, env, R => ⟨F, .refl F, R⟩
  | i :: is, F, env, R => by
    obtain ⟨F1, f1, R1⟩ := R.frz1 i
    obtain ⟨F2, f2, R2⟩ := Rel.frzL is R1
    exact ⟨F2, f1.trans f2, R2⟩
/-- a value, then the rest -/
theorem fk_post {r : Rs} {k : Md → PV → Fl} (R : Rel g xa F0 H0 F σ H env) (p : PostF g xa W F0 H0 F (r.fk env k) D)
    (h : ∀ m x v F1 H1, r = .ok m x → m ≠ .bo → Ext H H1 → Fx F H F1 H1 → VRep g m H F1 H1 v x → PostF g xa W F0 H0 F1 (k m x) D → Q v H1) : PostE g W σ F H r Q := by
  cases r with
  | ok m x =>
    intro v F1 H1 e fx vr
    cases m with
    | bo => exact p.elim
    | sh => exact h _ x v F1 H1 rfl (by decide) e fx vr (PostF.mono fx.ff p)
    | fr => exact h _ x v F1 H1 rfl (by decide) e fx vr (PostF.mono fx.ff p)
  | ex x => exact fun d F1 H1 e fx xr => p d σ F1 H1 fx.ff (R.mono e fx) xr
  | bad => exact p.elim
theorem fl_post {r : Rs} {k : Md → PV → Fl} (R : Rel g xa F0 H0 F σ H env) (p : PostF g xa W F0 H0 F (r.fl env k) D)
    (h : ∀ m x v F1 H1, r = .ok m x → Ext H H1 → Fx F H F1 H1 → VRep g m H F1 H1 v x → PostF g xa W F0 H0 F1 (k m x) D → Q v H1) : PostE g W σ F H r Q := by
  cases r with
  | ok m x => exact fun v F1 H1 e fx vr => h m x v F1 H1 rfl e fx vr (PostF.mono fx.ff p)
  | ex x => exact fun d F1 H1 e fx xr => p d σ F1 H1 fx.ff (R.mono e fx) xr
  | bad => exact p.elim
theorem flL_post {r : Rl} {k : Bool → List PV → Fl} {Q2 : List V → Hp → Prop} (R : Rel g xa F0 H0 F σ H env) (p : PostF g xa W F0 H0 F (r.fl env k) D)
    (h : ∀ n xs vs F1 H1, r = .ok n xs → Ext H H1 → Fx F H F1 H1 → (if n = true then RepVs g F1 vs xs else Paired (RepB g F1 H1) vs xs) → PostF g xa W F0 H0 F1 (k n xs) D → Q2 vs H1) : PostL g W σ F H r Q2 := by
  cases r with
  | ok n xs => exact fun v F1 H1 e fx vr => h n xs v F1 H1 rfl e fx vr (PostF.mono fx.ff p)
  | ex x => exact fun d F1 H1 e fx xr => p d σ F1 H1 fx.ff (R.mono e fx) xr
  | bad => exact p.elim
theorem fc_post {r : Rs} {y n : Fl} {Q2 : Bool → Hp → Prop} (R : Rel g xa F0 H0 F σ H env) (p : PostF g xa W F0 H0 F (r.fc env y n) D)
    (h : ∀ b F1 H1, r = .ok .sh (.bl b) ∨ (∃ m, r = .ok m (.bl b)) → Ext H H1 → Fx F H F1 H1 → PostF g xa W F0 H0 F1 (if b = true then y else n) D → Q2 b H1) : PostE g W σ F H r fun v H' => ∃ b, v = .bl b ∧ Q2 b H' := by
  cases r with
  | ok m x =>
    cases x with
    | bl b =>
      intro v F1 H1 e fx vr
      refine ⟨b, vr.b.bl, h b F1 H1 (.inr ⟨m, rfl⟩) e fx ?_⟩
      cases b
      · exact PostF.mono fx.ff p
      · exact PostF.mono fx.ff p
    | _ => exact p.elim
  | ex x => exact fun d F1 H1 e fx xr => p d σ F1 H1 fx.ff (R.mono e fx) xr
  | bad => exact p.elim
end
section
variable {S : Sg} {sc : Scope} {q : Nat} {e a b c : Expr} {ia ib ic : IR} {pos : Pos} {st : Stmt} {s : Sm} {sts : List Stmt} {ss : Ss}
theorem SSs.nil : SSs S sc q [] .nil := fun xa W X C => pss_nil.imp fun D σ H ⟨F0, H0, F, env, R, p⟩ => p σ F H (.refl F) R
theorem SSs.cons (h : SS S sc q st s) (hr : SSs S sc q sts ss) : SSs S sc q (st :: sts) (.cons s ss) := fun xa W X C => (pss_cons (h xa W X C) (hr xa W X C)).imp fun D σ H ⟨F0, H0, F, env, R, p⟩ => by
  refine ⟨F0, H0, F, env, R, ?_⟩
  simp only [execs] at p
  dsimp only
  cases e1 : exec S.EC s env with
  | nx e => rw [e1] at p; exact fun σ' F' H' f R' => ⟨F0, H0, F', e, R', PostF.mono f p⟩
  | _ => rw [e1] at p; exact p
theorem SS.pass : SS S sc q (.Pass pos) .pass := fun xa W X C => ps_pass.imp fun D σ H ⟨F0, H0, F, env, R, p⟩ => p σ F H (.refl F) R
theorem SS.brk : SS S sc q (.Break pos) .brk := fun xa W X C => ps_break.imp fun D σ H ⟨F0, H0, F, env, R, p⟩ => p σ F H (.refl F) R
theorem SS.cnt : SS S sc q (.Continue pos) .cnt := fun xa W X C => ps_continue.imp fun D σ H ⟨F0, H0, F, env, R, p⟩ => p σ F H (.refl F) R
theorem SS.retN : SS S sc q (.Return none pos) .retN := fun xa W X C => ps_retN.imp fun D σ H ⟨F0, H0, F, env, R, p⟩ => p .non F H (.refl F) R.ext R.fx .non
theorem SS.ret (he : SE S sc q e ia) : SS S sc q (.Return (some e) pos) (.ret ia) := fun xa W X C => (ps_ret (he xa W X C)).imp fun D σ H ⟨F0, H0, F, env, R, p⟩ => by
  show rd S.g xa W _ σ H D.rt
  refine ⟨F0, H0, F, env, R, fk_post R p fun m x v F1 H1 e1 hm ex fx vr p1 => ?_⟩
  refine p1 v F1 H1 (.refl _) (R.ext.trans ex) (Fx.trans R.ext R.fx fx) ?_
  cases m with
  | sh => exact vr
  | bo => exact absurd rfl hm
  | fr =>
    obtain ⟨p, h1, h2, h3, h4⟩ := vr
    exact ⟨p, h1, R.ext.back h2, h3, h4⟩
theorem SS.rtl {x : Str} {p2 : Pos} (i : Nat) (hN : S.N[i]? = some x) (hv : VisS sc x = true) (hd : (x == ("__debug__" : Str) || x == ("__classdict__" : Str)) = false) : SS S sc q (.Return (some (.Name x p2)) pos) (.rtl i) := fun xa W X C => by
  simp only [Bool.or_eq_false_iff] at hd
  have vx := visS hv
  rw [← C.sc] at vx
  refine (ps_ret (pe_var (i := i) (by rw [C.N]; exact hN) vx hd.1 hd.2)).imp fun D σ H ⟨F0, H0, F, env, R, p⟩ => ?_
  have hs := R.sl i
  simp only [exec] at p
  cases e1 : env[i]? with
  | none => rw [e1] at p; exact p.elim
  | some sl =>
    rw [e1] at p hs
    cases sl with
    | sh v =>
      obtain ⟨u, h1, h2⟩ := hs
      exact ⟨u, h1, p u F H (.refl F) R.ext R.fx h2⟩
    | ow v =>
      obtain ⟨u, h1, h2, h3, h4⟩ := hs
      exact ⟨_, h1, p _ F H (.refl F) R.ext R.fx ⟨u, rfl, h2, h3, h4⟩⟩
    | un => exact p.elim
    | xc c f => exact p.elim
theorem SS.ifs (hc : ST S sc q c ic) {sa sb : List Stmt} {xa' xb : Ss} (ha : SSs S sc q sa xa') (hb : SSs S sc q sb xb) : SS S sc q (.If c sa sb pos) (.ifs ic xa' xb) := fun xa W X C => (ps_if (hc xa W X C) (ha xa W X C) (hb xa W X C)).imp fun D σ H ⟨F0, H0, F, env, R, p⟩ => by
  show rdT S.g xa W _ σ H _
  refine ⟨F0, H0, F, env, R, fc_post R p fun b F1 H1 e1 ex fx p1 => ?_⟩
  cases b with
  | true => exact ⟨F0, H0, F1, env, R.mono ex fx, p1⟩
  | false => exact ⟨F0, H0, F1, env, R.mono ex fx, p1⟩
theorem SS.set {x : Str} {p2 : Pos} (i : Nat) (hN : S.N[i]? = some x) (hst : StoS S sc x = true) (hsw : ∀ env : PySem.Env, env.scope = sc → swapsWith e (some (.Name x p2)) pos.line env = pure false) (he : SE S sc q e ia) :
    SS S sc q (.Assign [.Name x p2] e pos) (.set i ia) := fun xa W X C => by
  obtain ⟨h1, h2⟩ := stoS C.sc C.fn hst
  refine (ps_set (i := i) (by rw [C.N]; exact C.nd) (by rw [C.N]; exact hN) h1 (he xa W X C) (hsw X.env C.sc) h2).imp fun D σ H ⟨F0, H0, F, env, R, p⟩ => ?_
  show rd S.g xa W _ σ H _
  refine ⟨F0, H0, F, env, R, fk_post R p fun m y v F1 H1 e1 hm ex fx vr p1 => ?_⟩
  exact p1 _ F1 H1 (.refl _) (R.setV hm ex fx i vr)
theorem SS.exp (hsw : ∀ env : PySem.Env, env.scope = sc → swapsWith e none pos.line env = pure false) (he : SE S sc q e ia) : SS S sc q (.Expr e pos) (.exp ia) := fun xa W X C => (ps_expr (he xa W X C) (hsw X.env C.sc)).imp fun D σ H ⟨F0, H0, F, env, R, p⟩ => by
  show rd S.g xa W _ σ H _
  refine ⟨F0, H0, F, env, R, fl_post R p fun m y v F1 H1 e1 ex fx vr p1 => ?_⟩
  exact p1 _ F1 H1 (.refl _) (R.mono ex fx)
theorem SS.frz (is : List Nat) (h : SS S sc q st s) : SS S sc q st (.frz is s) := fun xa W X C => (h xa W X C).imp fun D σ H ⟨F0, H0, F, env, R, p⟩ => by
  obtain ⟨F1, f1, R1⟩ := R.frzL is
  exact ⟨F0, H0, F1, _, R1, PostF.mono f1 p⟩
end
end EV
set_option Elab.async false
set_option linter.all false
set_option maxRecDepth 100000
set_option maxHeartbeats 2000000
/-! EVq: stores, loops. -/
namespace EV
open PySem PySem.Spec PyProof.Rows L2

theorem ixN_eq (n : Nat) (i : Int) : ixN n i = ixI n i := rfl
section
variable {g : Gh} {F : Hp}
theorem hasK_K {k : Key} {q : PV} (hq : kP k q) : ∀ {kvs : List (Key × V)} {ks vs : List PV}, RepK g F kvs ks vs → hasK q ks = kvs.any fun kv => decide (kv.1 = k)
  | _, _, _, .nil => rfl
  | _, _, _, .cons (k := k1) hk hv r => by
    have ih := hasK_K hq r
    unfold hasK at ih ⊢
    rw [List.any_cons, List.any_cons, ih, kP_eqv hk hq]
theorem repK_K {k : Key} {q x : PV} {v : V} (hq : kP k q) (hx : RepV g F v x) : ∀ {kvs : List (Key × V)} {ks vs : List PV}, RepK g F kvs ks vs → RepK g F (kvs.map fun kv => if kv.1 = k then (kv.1, v) else kv) ks (repVs q x ks vs)
  | _, _, _, .nil => .nil
  | _, _, _, .cons (k := k1) hk hv r => by
    have ih := repK_K hq hx r
    simp only [List.map_cons, repVs]
    rw [kP_eqv hk hq]
    by_cases h : k1 = k
    · simp only [h, if_true, decide_true]
      exact .cons (h ▸ hk) hx ih
    · simp only [h, if_false, decide_false, Bool.false_eq_true]
      exact .cons hk hv ih
theorem appK_K {k : Key} {q x : PV} {v : V} (hq : kP k q) (hx : RepV g F v x) : ∀ {kvs : List (Key × V)} {ks vs : List PV}, RepK g F kvs ks vs → RepK g F (kvs ++ [(k, v)]) (ks ++ [q]) (vs ++ [x])
  | _, _, _, .nil => .cons hq hx .nil
  | _, _, _, .cons hk hv r => .cons hk hv (appK_K hq hx r)
theorem putK_K {k : Key} {q x : PV} {v : V} (hq : kP k q) (hx : RepV g F v x) {kvs : List (Key × V)} {ks vs : List PV} (r : RepK g F kvs ks vs) : RepK g F (putK kvs k v) (putKs q ks) (putVs q x ks vs) := by
  unfold putK putKs putVs
  rw [hasK_K hq r]
  cases kvs.any fun kv => decide (kv.1 = k) with
  | true => exact repK_K hq hx r
  | false => exact appK_K hq hx r
theorem kT_eqv {k k1 : List Key} {p q : List PV} (hk : kPs k1 p) (hq : kPs k q) : eqv (.tup p) (.tup q) = decide (k1 = k) := by
  simp only [eqv]
  exact kPs_eqv hk hq
theorem hasK_T {k : List Key} {q : List PV} (hq : kPs k q) : ∀ {kvs : List (List Key × V)} {ks vs : List PV}, RepT g F kvs ks vs → hasK (.tup q) ks = kvs.any fun kv => decide (kv.1 = k)
  | _, _, _, .nil => rfl
  | _, _, _, .cons (k := k1) hk hv r => by
    have ih := hasK_T hq r
    unfold hasK at ih ⊢
    rw [List.any_cons, List.any_cons, ih, kT_eqv hk hq]
theorem repK_T {k : List Key} {q : List PV} {x : PV} {v : V} (hq : kPs k q) (hx : RepV g F v x) : ∀ {kvs : List (List Key × V)} {ks vs : List PV}, RepT g F kvs ks vs → RepT g F (kvs.map fun kv => if kv.1 = k then (kv.1, v) else kv) ks (repVs (.tup q) x ks vs)
  | _, _, _, .nil => .nil
  | _, _, _, .cons (k := k1) hk hv r => by
    have ih := repK_T hq hx r
    simp only [List.map_cons, repVs]
    rw [kT_eqv hk hq]
    by_cases h : k1 = k
    · simp only [h, if_true, decide_true]
      exact .cons (h ▸ hk) hx ih
    · simp only [h, if_false, decide_false, Bool.false_eq_true]
      exact .cons hk hv ih
theorem appK_T {k : List Key} {q : List PV} {x : PV} {v : V} (hq : kPs k q) (hx : RepV g F v x) : ∀ {kvs : List (List Key × V)} {ks vs : List PV}, RepT g F kvs ks vs → RepT g F (kvs ++ [(k, v)]) (ks ++ [.tup q]) (vs ++ [x])
  | _, _, _, .nil => .cons hq hx .nil
  | _, _, _, .cons hk hv r => .cons hk hv (appK_T hq hx r)
theorem putK_T {k : List Key} {q : List PV} {x : PV} {v : V} (hq : kPs k q) (hx : RepV g F v x) {kvs : List (List Key × V)} {ks vs : List PV} (r : RepT g F kvs ks vs) : RepT g F (putK kvs k v) (putKs (.tup q) ks) (putVs (.tup q) x ks vs) := by
  unfold putK putKs putVs
  rw [hasK_T hq r]
  cases kvs.any fun kv => decide (kv.1 = k) with
  | true => exact repK_T hq hx r
  | false => exact appK_T hq hx r
end
/-- a store by a key: list or dict -/
def rSetO : TSet := fun o i v H Q => (∃ p xs k j, o = .ref p ∧ i = .int k ∧ H p = some (.lst xs) ∧ ixN xs.length k = some j ∧ Q (upd H p (.lst (xs.set j v)))) ∨ ∃ a H', o = .ref a ∧ DPut H a i v H' ∧ Q H'
theorem set_o {X : Cx} (hu : X.A.units + 1 < cLine) : PSet X rSetO := fun pins s σ H o i v ov iv u Q I ro ri rv h => by
  rcases h with h | h
  · exact set_list pins s σ H o i v ov iv u Q I ro ri rv h
  · exact set_dict hu pins s σ H o i v ov iv u Q I ro ri rv h
section
variable {g : Gh} {xa : Option (Addr × Value × Option Addr)} {W : WX} {σ : L2.St} {F0 H0 F F1 H : Hp} {env : Env} {D D' : Ends} {Q : VK}
/-- what is owned, stored into -/
theorem put_red {i : Nat} {c k y n : PV} {ku vu : V} {Q2 : Hp → Prop} (R : Rel g xa F0 H0 F σ H env) (hi : env[i]? = some (.ow c)) (hp : putP c k y = some n) (rk : RepB g F H ku k) (ry : RepV g F vu y) (h : ∀ H', Rel g xa F0 H0 F σ H' (env.set i (.ow n)) → Q2 H') :
    ∃ p, σ[i]? = some (some (.ref p)) ∧ rSetO (.ref p) ku vu H Q2 := by
  have hsl := R.sl i
  rw [hi] at hsl
  obtain ⟨p, hs, n0, nF, hc⟩ := hsl
  refine ⟨p, hs, ?_⟩
  unfold putP at hp
  split at hp
  · rename_i xs
    obtain ⟨vs, hv, rs⟩ := hc
    split at hp
    · rename_i z
      have := RepB.int rk
      subst this
      rw [Option.map_eq_some_iff] at hp
      obtain ⟨j, hj, rfl⟩ := hp
      refine .inl ⟨p, vs, z, j, rfl, rfl, hv, ?_, h _ (R.put hi hs ⟨_, rfl, rs.set ry j⟩)⟩
      rw [ixN_eq, rs.length]
      exact hj
    · cases hp
  · rename_i t ks vs
    split at hp
    · rename_i hk
      simp only [Bool.and_eq_true, decide_eq_true_eq] at hk
      obtain ⟨hk, hl⟩ := hk
      cases hp
      have rk := keyB hk rk
      refine .inr ⟨p, ?_⟩
      cases t with
      | false =>
        obtain ⟨kvs, hv, rs⟩ := hc
        obtain ⟨kk, h1, rfl⟩ := key_of hk rk
        refine ⟨_, rfl, .inl ⟨kvs, kk, hv, rfl, ?_, rfl⟩, h _ (R.put hi hs ⟨_, rfl, putK_K h1 ry rs⟩)⟩
        rw [rs.len.1, sizeLine_eq]
        exact hl
      | true =>
        obtain ⟨kvs, hv, rs⟩ := hc
        obtain ⟨qs, rfl⟩ := keyT hk
        cases rk with
        | tup h2 _ r2 =>
          obtain ⟨kk, h3, rfl⟩ := keys_of hk r2
          refine ⟨_, rfl, .inr ⟨kvs, kk, _, hv, rfl, tup_mono R.fx.fh h2, ?_, rfl⟩, h _ (R.put hi hs ⟨_, rfl, putK_T h3 ry rs⟩)⟩
          rw [rs.len.1, sizeLine_eq]
          exact hl
    · cases hp
  · cases hp
end
section
variable {S : Sg} {sc : Scope} {q : Nat} {e a b c d : Expr} {ia ib ic id : IR} {pos : Pos} {st : Stmt} {s : Sm} {sts : List Stmt} {ss : Ss}
theorem owOf_some {o : Option Sl} {v : PV} (h : owOf o = some v) : o = some (.ow v) := by
  unfold owOf at h
  split at h
  · cases h; rfl
  · cases h
theorem SS.put {x : Str} {p1 p2 : Pos} (i : Nat) (hN : S.N[i]? = some x) (hv : VisS sc x = true) (hd : (x == ("__debug__" : Str) || x == ("__classdict__" : Str)) = false) (hp : plE a = true)
    (hsw : ∀ env : PySem.Env, env.scope = sc → swapsWithSole [.Subscript (.Name x p1) a p2] b pos.line env = pure false) (ha : SE S sc q a ia) (hb : SE S sc q b ib)
    (hw : ∀ env, swappedStores [.Subscript (.Name x p1) a p2] b env = pure none := by intro _; rfl) :
    SS S sc q (.Assign [.Subscript (.Name x p1) a p2] b pos) (.put i ia ib) := fun xa W X C => by
  simp only [Bool.or_eq_false_iff] at hd
  have vx := visS hv
  rw [← C.sc] at vx
  have un := C.un
  refine (ps_asg (hb xa W X C) (pg_sub (pe_var (i := i) (by rw [C.N]; exact hN) vx hd.1 hd.2) (ha xa W X C) (set_o (by omega)) (fun v => ?_)) (hsw X.env C.sc) (hw X.env) rfl).imp fun D σ H ⟨F0, H0, F, env, R, p⟩ => ?_
  · cases a <;> first | rfl | (simp [plE] at hp)
  · show rd S.g xa W _ σ H _
    simp only [exec] at p
    cases eo : owOf env[i]? with
    | none => rw [eo] at p; exact p.elim
    | some c0 =>
      rw [eo] at p
      simp only [ownK] at p
      refine ⟨F0, H0, F, env, R, fk_post R p fun m y v F1 H1 e1 hm ex fx vr p1 => ?_⟩
      obtain ⟨F2, fx2, ff2, r2⟩ := VRep.keep hm fx vr
      have R2 := R.mono ex fx2
      have p2 := PostF.mono ff2 p1
      have hs := R2.sl i
      have ei := owOf_some eo
      rw [ei] at hs
      obtain ⟨pp, h1, _⟩ := hs
      refine ⟨.ref pp, h1, ?_⟩
      show rd S.g xa W _ σ H1 _
      refine ⟨F0, H0, F2, env, R2, fk_post R2 p2 fun m3 y3 v3 F3 H3 e3 hm3 ex3 fx3 vr3 p3 => ?_⟩
      have R3 := R2.mono ex3 fx3
      cases en : putP c0 y3 y with
      | none => rw [en] at p3; exact p3.elim
      | some n =>
        rw [en] at p3
        obtain ⟨p', h2, h3⟩ := put_red R3 ei en vr3.b (r2.mono fx3.ff) (fun H' R' => p3 σ F3 H' (.refl _) R')
        rw [h1] at h2
        cases h2
        exact h3
theorem SS.app {x : Str} {p1 apos cpos : Pos} (i : Nat) (hN : S.N[i]? = some x) (hv : VisS sc x = true) (hd : (x == ("__debug__" : Str) || x == ("__classdict__" : Str)) = false) (hp : plE a = true) (hline : (apos.endLine == cpos.line) = true)
    (ha : SE S sc q a ia) : SS S sc q (.Expr (.Call (.Attribute (.Name x p1) "append" apos) [a] [] cpos) pos) (.app i ia) := fun xa W X C => by
  simp only [Bool.or_eq_false_iff] at hd
  have vx := visS hv
  rw [← C.sc] at vx
  have hpl : [a].all plE = true := by simp [hp]
  refine (ps_expr (pe_bm (T := "list") (r := rAppend) PySem.F.plainAttrs_list PySem.F.slot_list_append PySem.F.type_list_append mt_append (pe_var (i := i) (by rw [C.N]; exact hN) vx hd.1 hd.2) (pa_cons (ha xa W X C) pa_nil (star_pl hp)) rfl ?_ hline (star_pl hp) rfl) rfl).imp fun D σ H ⟨F0, H0, F, env, R, p⟩ => ?_
  · rw [plfew hpl]
    rfl
  · simp only [exec] at p
    cases eo : owOf env[i]? with
    | none => rw [eo] at p; exact p.elim
    | some c0 =>
      rw [eo] at p
      cases c0 with
      | lst xs =>
        simp only [lstK] at p
        have ei := owOf_some eo
        have hs := R.sl i
        rw [ei] at hs
        obtain ⟨pp, h1, _, _, vs0, hv0, _⟩ := hs
        refine ⟨.ref pp, h1, .inl ⟨rfl, vs0, .inl (.inl hv0)⟩, ?_⟩
        show rd S.g xa W _ σ H _
        refine ⟨F0, H0, F, env, R, fk_post R p fun m y v F1 H1 e1 hm ex fx vr p1 => ?_⟩
        obtain ⟨F2, fx2, ff2, r2⟩ := VRep.keep hm fx vr
        have R2 := R.mono ex fx2
        have p2 := PostF.mono ff2 p1
        simp only [appP] at p2
        split at p2
        · rename_i hl
          have hs2 := R2.sl i
          rw [ei] at hs2
          obtain ⟨pp2, h2, n0, nF, vs, hv, rs⟩ := hs2
          rw [h1] at h2
          cases h2
          refine ⟨pp, vs, v, rfl, rfl, hv, ?_, p2 _ F2 _ (.refl _) (R2.put ei h1 ⟨_, rfl, rs.append (.cons r2 .nil)⟩)⟩
          rw [rs.length, sizeLine_eq]
          exact hl
        · exact p2.elim
      | _ => exact p.elim
end
end EV
set_option Elab.async false
set_option linter.all false
set_option maxRecDepth 100000
set_option maxHeartbeats 2000000
/-! EVr: parallel stores, loops, a name for a comprehension. -/
namespace EV
open PySem PySem.Spec PyProof.Rows L2
section
variable {S : Sg} {sc : Scope} {q : Nat} {e a b c d : Expr} {ia ib ic id : IR} {pos : Pos} {st : Stmt} {s : Sm} {sts : List Stmt} {ss : Ss}
theorem SS.unp {es : List Expr} {k : Nat} {p2 : Pos} {is : List Nat} (hg : SG S sc q (.Tuple es k p2) (.t is)) (he : SE S sc q e ia)
    (hsw : ∀ env : PySem.Env, env.scope = sc → swapsWithSole [.Tuple es k p2] e pos.line env = pure false) (hw : ∀ env, swappedStores [.Tuple es k p2] e env = pure none) :
    SS S sc q (.Assign [.Tuple es k p2] e pos) (.unp is ia) := fun xa W X C => by
  refine (ps_asg (he xa W X C) (hg xa W X C) (hsw X.env C.sc) (hw X.env) rfl).imp fun D σ H ⟨F0, H0, F, env, R, p⟩ => ?_
  show rd S.g xa W _ σ H _
  refine ⟨F0, H0, F, env, R, fk_post R p fun m y v F1 H1 e1 hm ex fx vr p1 => ?_⟩
  obtain ⟨F2, fx2, ff2, r2⟩ := VRep.keep hm fx vr
  have R2 := R.mono ex fx2
  have p2 := PostF.mono ff2 p1
  unfold unpR at p2
  cases et : tgB (.t is) y env with
  | none => rw [et] at p2; exact p2.elim
  | some e' =>
    rw [et] at p2
    exact ⟨F0, H0, F2, env, y, e', R2, r2, et, fun σ' R' _ => p2 σ' F2 H1 (.refl _) R'⟩
theorem SS.par {x y : Str} {px py pt pt2 : Pos} {kt k2} (i j : Nat) (hq : 1 ≤ q) (hi : S.N[i]? = some x) (hj : S.N[j]? = some y) (hij : i ≠ j) (hx : sc.names.lookup x = some .local) (hy : sc.names.lookup y = some .local)
    (hw : ∀ env : PySem.Env, env.scope = sc → swappedStores [.Tuple [.Name x px, .Name y py] kt pt] (.Tuple [a, b] k2 pt2) env = pure (some [x, y]))
    (h : SA S sc q [a, b] (.cons ia (.cons ib .nil))) :
    SS S sc q (.Assign [.Tuple [.Name x px, .Name y py] kt pt] (.Tuple [a, b] k2 pt2) pos) (.par i j ia ib) := fun xa W X C => by
  refine (ps_par (C.cl hq) (by rw [C.N]; exact C.nd) (by rw [C.N]; exact hi) (by rw [C.N]; exact hj) hij (by rw [C.sc]; exact hx) (by rw [C.sc]; exact hy) (h xa W X C) (hw X.env C.sc) rfl).imp fun D σ H ⟨F0, H0, F, env, R, p⟩ => ?_
  show rdL S.g xa W _ σ H _
  refine ⟨F0, H0, F, env, R, flL_post R p fun n xs vs F1 H1 e1 ex fx lr p1 => ?_⟩
  unfold parR at p1
  split at p1
  · cases lr with
    | cons r1 rr =>
      cases rr with
      | cons r2 rr =>
        cases rr
        exact ⟨_, _, rfl, p1 _ F1 H1 (.refl _) (((R.mono ex fx).setSh i r1).setSh j r2)⟩
  · exact p1.elim
/-- a for's turns -/
theorem for_red {g : Gh} {xa : Option (Addr × Value × Option Addr)} {W : WX} {k : IK} {tg : Tg} {cl : List Nat} {src : Env → Rl} {fb : Env → Fl} {D : Ends} {σ : L2.St} {H : Hp}
    (h : rdS g xa W (fun env => (src env).fl env fun n vs => nobF n (ofF ((itm k vs).map fun xs => forT (fun x e => ofF ((tgB tg x e).map fb)) cl xs env))) D σ H) : tFor (rdI g xa W k src) (rdG g xa tg) (rdS g xa W fb) D σ H := by
  obtain ⟨F0, H0, F, env, R, p⟩ := h
  show rdI g xa W k src σ H _
  refine ⟨F0, H0, F, env, R, ?_⟩
  dsimp only at p
  cases es : src env with
  | bad => rw [es] at p; exact p.elim
  | ex x => rw [es] at p; exact fun d F1 H1 e fx xr => p d σ F1 H1 fx.ff (R.mono e fx) xr
  | ok n vs =>
    rw [es] at p
    simp only [Rl.fl] at p
    cases n with
    | false => exact p.elim
    | true =>
      simp only [PostI]
      cases ei : itm k vs with
      | none => rw [ei] at p; exact p.elim
      | some xs =>
        rw [ei] at p
        have p : PostF g xa W F0 H0 F (forT (fun x e => ofF ((tgB tg x e).map fb)) cl xs env) D := p
        intro J F1 H1 ex fx wk hlen
        have R1 := R.mono ex fx
        generalize hf : (fun x e => ofF ((tgB tg x e).map fb)) = f at p
        refine ⟨fun i m σ' Hc => m + i = xs.length ∧ ∃ F' e', FLe F1 F' ∧ Rel g xa F0 H0 F' σ' Hc e' ∧ PostF g xa W F0 H0 F' (forT f cl (xs.drop i) e') D, ⟨xs.length, rfl, F1, env, .refl _, R1, PostF.mono fx.ff p⟩, ?_⟩
        rintro i m σ' Hc ⟨hm, F', e', f1, R', pp⟩
        have wki := wk i F' Hc f1 R'.fx.fh fun z => nomatch z
        by_cases hlt : i < xs.length
        · refine .inr ?_
          have hx : xs[i]? = some xs[i] := List.getElem?_eq_getElem hlt
          generalize hxv : xs[i] = x at hx
          obtain ⟨hgo, hyld⟩ := wki.1 x hx
          have hdrop : xs.drop i = x :: xs.drop (i + 1) := by rw [List.drop_eq_getElem_cons hlt, hxv]
          rw [hdrop] at pp
          have pp : PostF g xa W F0 H0 F' ((f x e').turn cl (forT f cl (xs.drop (i + 1)))) D := pp
          refine ⟨hgo, fun σ2 H2 => ∃ F2 e2, FLe F1 F2 ∧ Rel g xa F0 H0 F2 σ2 H2 e2 ∧ PostF g xa W F0 H0 F2 (forT f cl (xs.drop (i + 1)) e2) D, fun σ2 H2 hi => ⟨m - 1, by omega, by omega, hi⟩, fun v H' hy => ?_⟩
          obtain ⟨F2, ex2, fx2, rv⟩ := hyld v H' hy
          have R2 := R'.mono ex2 fx2
          have fxx : f x e' = ofF ((tgB tg x e').map fb) := by rw [← hf]
          cases eb : tgB tg x e' with
          | none =>
            rw [eb] at fxx
            rw [fxx] at pp
            exact pp.elim
          | some e3 =>
            rw [eb] at fxx
            have fxx : f x e' = fb e3 := fxx
            rw [fxx] at pp
            refine ⟨F0, H0, F2, e', x, e3, R2, rv, eb, fun σ3 R3 _ => ⟨F0, H0, F2, e3, R3, ?_⟩⟩
            have pp := PostF.mono fx2.ff pp
            have f2 := f1.trans fx2.ff
            cases er : fb e3 with
            | nx e4 => rw [er] at pp; exact fun σ4 F4 H4 f4 R4 => ⟨F4, _, f2.trans f4, R4.clr (xs := cl), PostF.mono f4 pp⟩
            | ct e4 => rw [er] at pp; exact fun σ4 F4 H4 f4 R4 => ⟨F4, _, f2.trans f4, R4.clr (xs := cl), PostF.mono f4 pp⟩
            | bk e4 => rw [er] at pp; exact fun σ4 F4 H4 f4 R4 => pp σ4 F4 H4 f4 (R4.clr (xs := cl))
            | rt m v => rw [er] at pp; exact pp
            | ex x e4 => rw [er] at pp; exact pp
            | bad => rw [er] at pp; exact pp.elim
        · refine .inl ⟨wki.2 (by omega), ?_⟩
          have hdrop : xs.drop i = [] := List.drop_eq_nil_of_le (by omega)
          rw [hdrop] at pp
          exact pp σ' F' Hc (.refl _) R'
end
section
variable {S : Sg} {sc : Scope} {q : Nat} {e a b c d tg src : Expr} {ia ib ic id : IR} {pos : Pos} {st : Stmt} {s : Sm} {sts : List Stmt} {ss : Ss}
theorem SS.for {k : IK} {isrc : IRs} {t : Tg} (cl : List Nat) (hq : 2 ≤ q) (hs : ∀ env x, foldedSetIterable src env x = pure x) (hi : SI S sc q tg src k isrc) (hg : SG S sc q tg t) (hb : SSs S sc q sts ss) :
    SS S sc q (.For tg src sts [] pos) (.for t k isrc ss cl) := fun xa W X C => by
  refine (ps_for (C.own (by omega)) (C.cl (by omega)) (hi xa W X C) (hg xa W X C) (hb xa W X C) (hs X.env)).imp fun D σ H ⟨F0, H0, F, env, R, p⟩ => for_red (cl := cl) ⟨F0, H0, F, env, R, ?_⟩
  simp only [exec] at p
  exact p
/-- a while's turns: by the fuel -/
theorem SS.whl (n : Nat) (hq : 2 ≤ q) (hc : ST S sc q c ic) (hb : SSs S sc q sts ss) : SS S sc q (.While c sts [] pos) (.whl n ic ss) := fun xa W X C => by
  refine (ps_while (C.own (by omega)) (hc xa W X C) (hb xa W X C)).imp fun D σ H ⟨F0, H0, F, env, R, p⟩ => ?_
  simp only [exec] at p
  generalize hcf : (fun e => ev S.EC true ic e) = cf at p
  generalize hbf : (fun e => execs S.EC ss e) = bf at p
  refine ⟨fun m σ' Hc => ∃ F' e', Rel S.g xa F0 H0 F' σ' Hc e' ∧ PostF S.g xa W F0 H0 F' (whlT cf bf m e') D, ⟨n, F, env, R, p⟩, ?_⟩
  rintro m σ' Hc ⟨F', e', R', pp⟩
  cases m with
  | zero => exact pp.elim
  | succ m =>
    have ec : ev S.EC true ic e' = cf e' := by rw [← hcf]
    have eb : ∀ e, execs S.EC ss e = bf e := fun e => by rw [← hbf]
    have pp : PostF S.g xa W F0 H0 F' ((cf e').fc e' ((bf e').turn [] (whlT cf bf m)) (.nx e')) D := pp
    show rdT S.g xa W _ σ' Hc _
    refine ⟨F0, H0, F', e', R', ?_⟩
    dsimp only
    try rw [ec]
    refine fc_post R' pp fun b F1 H1 e1 ex fx p1 => ?_
    have R1 := R'.mono ex fx
    cases b with
    | false => exact p1 σ' F1 H1 (.refl _) R1
    | true =>
      rw [if_pos rfl]
      rw [if_pos rfl] at p1
      refine ⟨fun σ2 H2 => ∃ F2 e2, Rel S.g xa F0 H0 F2 σ2 H2 e2 ∧ PostF S.g xa W F0 H0 F2 (whlT cf bf m e2) D, fun σ2 H2 hi => ⟨m, Nat.lt_succ_self _, hi⟩, F0, H0, F1, e', R1, ?_⟩
      try dsimp only
      try rw [eb]
      cases er : bf e' with
      | nx e4 => rw [er] at p1; exact fun σ4 F4 H4 f4 R4 => ⟨F4, _, R4, PostF.mono f4 p1⟩
      | ct e4 => rw [er] at p1; exact fun σ4 F4 H4 f4 R4 => ⟨F4, _, R4, PostF.mono f4 p1⟩
      | bk e4 => rw [er] at p1; exact fun σ4 F4 H4 f4 R4 => p1 σ4 F4 H4 f4 R4
      | rt m v => rw [er] at p1; exact p1
      | ex x e4 => rw [er] at p1; exact p1
      | bad => rw [er] at p1; exact p1.elim
/-- name = [..] on one line -/
theorem SS.setLc {x : Str} {p2 : Pos} {elt tg iter : Expr} {ifs : List Expr} {scope : Scope} {p3 : Pos} {k : IK} {t : Tg} {isrc icond : IRs} {ielt : IR} (i : Nat) (own : List (Str × Nat)) (hq : 1 ≤ q) (hN : S.N[i]? = some x) (hx : sc.names.lookup x = some .local)
    (hl : (p2.line == p3.line) = true) (hy : (scope.names.any fun (n, k) => n == x && (k == .local || k == .cell)) = false) (hs : ∀ env x, foldedSetIterable iter env x = pure x) (hb : blkC S.N sc scope own = true) (ho : own.map (·.2) = slots t)
    (hi : SI S sc q tg iter k isrc) (hg : SG (S.blk scope) (relS scope sc) 1 tg t) (hc : SC (S.blk scope) (relS scope sc) 1 ifs icond) (he : SE (S.blk scope) (relS scope sc) 1 elt ielt) (hk : sc.kind = .function) :
    SS S sc q (.Assign [.Name x p2] (.ListComp elt [⟨tg, iter, ifs, 0⟩] scope p3) pos) (.set i (.lc t k isrc icond ielt)) := fun xa W X C => by
  have cb : ∀ (s : Shared) (H : Hp) (A : Addr) (cl : List (Str × Addr)) (fp : List Addr), CxO (S.blk scope) (relS scope sc) 1 xa (fun _ _ _ _ => False) (X.blk s H scope (compEnvC scope cl A X.env) fp) := fun s H A cl fp => C.blk hq (xe := fun _ _ => False) fun σ => notEx _ σ
  have hx' : X.env.scope.names.lookup x = some .local := by rw [C.sc]; exact hx
  refine (ps_setLc (i := i) (C.cl hq) (by rw [C.N]; exact C.nd) (by rw [C.N]; exact hN) hx' (sw_true (by rw [C.sc]; exact hk) hx' hl hy) (hi xa W X C) (blkOk_by (own := own) (by rw [C.N, C.sc]; exact hb)) (fun s H A cl fp => hg xa _ _ (cb s H A cl fp)) (fun s H A cl fp => hc xa _ _ (cb s H A cl fp))
    (fun s H A cl fp => he xa _ _ (cb s H A cl fp)) (hs X.env)).imp fun D σ H ⟨F0, H0, F, env, R, p⟩ => ?_
  rw [ho]
  refine lc_red (nx := true) (W := W) (fun z => nomatch z) ?_
  refine ⟨F0, H0, F, env, R, ?_⟩
  simp only [exec, ev, fin] at p
  exact fk_post R p fun m y v F1 H1 e1 hm ex fx vr p1 => p1 _ F1 H1 (.refl _) (R.setV hm ex fx i vr)
end
end EV
set_option Elab.async false
set_option linter.all false
set_option maxRecDepth 100000
set_option maxHeartbeats 2000000
/-! EVs: own exception classes with one field (the worked proof of an own error, for any class name and field). -/
namespace PySem
namespace OneX
open PySem.W PySem.Calls PyProof.Rows PySem.HandSPX
/-! ### the text of __init__ -/
def iA (fl : Str) (p1 p2 : Pos) : Arguments := { posonlyargs := [], args := [{ arg := "self", annotation := none, pos := p1 }, { arg := fl, annotation := none, pos := p2 }], vararg := none, kwonlyargs := [], kw_defaults := [], kwarg := none, defaults := [] }
def iB (fl : Str) (q1 q2 q3 q4 : Pos) : List Stmt := [.Assign [.Attribute (.Name "self" q1) fl q2] (.Name fl q3) q4]
def iS (fl : Str) : Scope := { kind := .function, names := [(PySem.Str.ofString "self", .local), (fl, .local)], isGenerator := false, isCoroutine := false, more := [] }
/-- what the written part says of Low, at C, and of its __init__, at fI -/
structure LowTxt (cn fl qn : Str) (K : Frag) (mg : Str → Option Value) (C fI : Addr) : Prop where
  nS : (fl == ("self" : Str)) = false
  nD : (fl == ("__debug__" : Str)) = false
  kS : (iS fl).names.lookup ("self" : Str) = some .local
  kF : (iS fl).names.lookup fl = some .local
  bd : ∀ (doc pm : Value) (an : Option Addr) (cdv ct : Value) (p1 p2 q1 q2 q3 q4 : Pos) (x v : Value), bindArgs (fnOf "__init__" qn (iA fl p1 p2) (iB fl q1 q2 q3 q4) (iS fl) .none .none doc pm an cdv ct) ⟨[x, v], []⟩ = pure [(("self" : Str), x), (fl, v)]
  gC : mg cn = some (.ref C)
  cls : ∃ nm q N bs bm sn sub ab col dd k0 k1 k2 k3 k5, K.lookup C = some (excClassObj nm q C N bs bm true sn sub ab col dd k0 k1 k2 k3 k5 "ValueError.__new__") ∧ refsVE bm = true
  sa : findIn K (.ref C) "__setattr__" = some (some (.builtin "object.__setattr__"))
  ga : findIn K (.ref C) "__getattribute__" = some (some (.builtin "BaseException.__getattribute__"))
  gg : findIn K (.ref C) "__getattr__" = some none
  noN : findIn K (.ref C) fl = some none
  iC : findIn K (.ref C) "__init__" = some (some (.ref fI))
  tC : typeIn K (.ref fI) = some (.type "function")
  kC : keepIn K (.ref C) = true
  exC : subIn K (.ref C) (.type "BaseException") = some true
  tyC : typeIn K (.ref C) = some (.type "type")
  hdC : hasDictIn K C = true
  te : exmOne K (.ref C) (.ref C) = some true
  fn : ∃ (oc : Value) (od : Option Addr) (doc pm : Value) (an : Option Addr) (cdv ct : Value) (osl : Array (Option Value)) (p1 p2 q1 q2 q3 q4 : Pos),
    K.lookup fI = some ⟨oc, od, .func (fnOf "__init__" qn (iA fl p1 p2) (iB fl q1 q2 q3 q4) (iS fl) .none .none doc pm an cdv ct), osl⟩ ∧ codeIn K cdv qn = true
theorem one_size (v : Value) : [v].length ≤ sizeLine := by
  rw [sizeLine_eq]
  exact (by decide : 1 ≤ 16777216)
theorem kept_but {K : Frag} {h h' : Heap} {x : Addr} (X : K.In h) (hx : K.lookup x = none) (k : ∀ b o, b ≠ x → h.get? b = some o → h'.get? b = some o) : K.In h' := fun a o e =>
  k a o (fun z => by rw [z, hx] at e; cases e) (X a o e)
theorem ldC {M : Model} {s : Shared} {name : Str} {scope : Scope} {L a : Addr} {cd : Value} {m : Str → Option Value} {x : Str} {pos : Pos} {v : Value} {Q : Value → Shared → Prop} {A : Around} {E : Value → Shared → Prop} (hn : s.heap.Ns L m) (hv : m x = some v) (h : Q v s)
    (hk : scope.kind = .function := by rfl) (hl : (envOfC name scope L a cd).kindOf x = some .local := by rfl) (hd : (x == ("__debug__" : Str)) = false := by decide) :
    wpAny M A (eval (.Name x pos) (envOfC name scope L a cd)) Q E s := wpAny_Name (wpAny_loadName_local hk hl hn hv h) hd
/-- what __init__ leaves of a fresh exception at x -/
structure InitEnd (fl : Str) (h h' : Heap) (x C dx t1 : Addr) (v : Value) : Prop where
  keep : ∀ b o, b ≠ x → h.get? b = some o → h'.get? b = some o
  obj : h'.get? x = some { cls := .ref C, dict := some dx, data := .fields #[.ref t1, .none, .none, .none, .bool false, .none] }
  dbig : h.objs.size ≤ dx
  dne : dx ≠ x
  ns : h'.Ns1 dx (fun y => if y = fl then some v else none)
/-- a made Low -/
structure OwnMade (fl : Str) (h h' : Heap) (e C d : Addr) (v : Value) : Prop where
  keep : ∀ b o, h.get? b = some o → h'.get? b = some o
  new : h.objs.size ≤ e
  obj : ∃ oe vs, h'.get? e = some oe ∧ oe.cls = .ref C ∧ oe.dict = some d ∧ oe.data = .fields vs ∧ vs[1]? = some .none
  dbig : h.objs.size ≤ d
  dne : d ≠ e
  ns : h'.Ns1 d (fun y => if y = fl then some v else none)
section
variable {prog : Program} {w : World} {A : Around} {E : Value → Shared → Prop} {R : Result → Shared → Prop} {s : Shared} {K : Frag} {mg : Str → Option Value} {C fI : Addr} {cn fl qn : Str}
theorem low_init (T : LowTxt cn fl qn K mg C fI) {x t0 : Addr} {v : Value} (X : K.In s.heap) (hlim : s.heap.NoLimit) (hx : s.heap.get? x = some (excO C t0)) (hnx : K.lookup x = none) (hroom : A.depth < recursionLimit)
    (hq : ∀ h' tk dx, InitEnd fl s.heap h' x C dx t0 v → R (.ok (.ret .none)) { s with heap := h', toks := tk }) :
    codeAny (model prog w) A (.call (.ref fI) ⟨[.ref x, v], []⟩) R s := by
  obtain ⟨oc, od, doc, pm, an, cdv, ct, osl, p1, p2, q1, q2, q3, q4, ho, hcd⟩ := T.fn
  obtain ⟨nm, q, N, bs, bm, sn, sub, ab, col, dd, k0, k1, k2, k3, k5, hC, hbm⟩ := T.cls
  have hcl : clsIn K C = some { name := nm, bases := bs, mro := .ref C :: bm, ns := N, qualname := q, hasDict := true, slotNames := sn, subclasses := sub, abstract := ab, collection := col, hasDel := false } := by unfold clsIn; rw [hC] <;> rfl
  refine Att.call_fn (binds := [(("self" : Str), .ref x), (fl, v)]) X hlim ho hcd hroom (BindsTo.of_eq (T.bd ..)) (by simp [T.kS, T.kF]) (fun s₁ IC => ?_) rfl rfl rfl
  obtain ⟨h₁, tk₁, rfl⟩ := IC.toInCall.same
  have k : ∀ b o, s.heap.get? b = some o → h₁.get? b = some o := IC.toInCall.keep
  have hn := IC.toInCall.ns
  have hxL : s.heap.objs.size ≠ x := Nat.ne_of_gt (Heap.lt_size hx)
  have X₁ : K.In h₁ := X.keeps k
  have hx₁ := k _ _ hx
  -- self.by = by
  show wpAny _ _ (execs _ _) _ _ _
  refine wpAny_execs_cons (plainObj_wpAny_Assign_Attribute ?_)
  refine ldC (v := v) hn ?_ (ldC (v := .ref x) hn ?_ ?_ rfl T.kS (by decide)) rfl T.kF T.nD
  · unfold bindL bindL bindL
    rw [if_pos (show (envOfC qn (iS fl) s.heap.objs.size fI cdv).kindOf fl = some .local from T.kF)]
    exact if_pos rfl
  · unfold bindL bindL bindL
    rw [if_pos (show (envOfC qn (iS fl) s.heap.objs.size fI cdv).kindOf fl = some .local from T.kF), if_pos (show (envOfC qn (iS fl) s.heap.objs.size fI cdv).kindOf ("self" : Str) = some .local from T.kS)]
    have e : ¬ (("self" : Str) = fl) := fun z => by
      have := T.nS
      rw [← z] at this
      simp at this
    show (if ("self" : Str) = fl then some v else if ("self" : Str) = "self" then some (.ref x) else none) = some (.ref x)
    rw [if_neg e, if_pos rfl]
  refine set_plain X₁ (ox := excO C t0) (od := none) ⟨hx₁, rfl, rfl, trivial⟩ T.sa ?_
  refine exc_osa X₁ hx₁ hcl (show refsVE (.ref C :: bm) = true from hbm) rfl T.noN (fun h₃ tk₃ dx k₃ dn dne hx₃ hn₃ => ?_)
  show wpAny _ _ (execs _ _) _ _ _
  have z : s.heap.objs.size < h₁.objs.size := hn.lt
  exact wpAny_execs_nil (hq h₃ tk₃ dx ⟨fun b o hb e => k₃ b o hb (k b o e), hx₃, Nat.le_of_lt (Nat.lt_of_lt_of_le z dn), dne, hn₃⟩)
theorem low_made (T : LowTxt cn fl qn K mg C fI) {v : Value} (X : K.In s.heap) (hlim : s.heap.NoLimit) (hroom : A.depth + 1 < recursionLimit)
    (hq : ∀ h' tk e d, OwnMade fl s.heap h' e C d v → R (.ok (.ret (.ref e))) { s with heap := h', toks := tk }) :
    codeAny (model prog w) A (.call (.ref C) ⟨[v], []⟩) R s := by
  obtain ⟨nm, q, N, bs, bm, sn, sub, ab, col, dd, k0, k1, k2, k3, k5, hC, hbm⟩ := T.cls
  obtain ⟨hp, g, dr, tk, os⟩ := s
  have k : ∀ b o, hp.get? b = some o → ((hp.push (kdv_tup [v])).push (excO C hp.objs.size)).get? b = some o := fun b o e => Heap.get?_push_of_some _ (Heap.get?_push_of_some _ e)
  have hget : ((hp.push (kdv_tup [v])).push (excO C hp.objs.size)).get? (hp.objs.size + 1) = some (excO C hp.objs.size) := by heap_get
  have hnx : K.lookup (hp.objs.size + 1) = none := by
    cases e : K.lookup (hp.objs.size + 1) with
    | none => rfl
    | some o =>
      have z : hp.get? (hp.objs.size + 1) = some o := X _ _ e
      exact absurd (Nat.lt_of_succ_lt (Heap.lt_size z)) (Nat.lt_irrefl _)
  refine call_own F.excBase_ValueError (fun X => refsVE_contains X bm hbm) (X _ _ hC) (looks_findIn X T.iC) (fun self => bind_fn X self T.tC) (one_size v) ?_
  refine low_init (s := ⟨(hp.push (kdv_tup [v])).push (excO C hp.objs.size), g, dr, tk, os⟩) T (X.keeps k) (hlim.keeps k) hget hnx ?_ fun h' tk' dx ⟨k', hx, dn, dne, hns⟩ => ?_
  · show A.depth + 1 < recursionLimit
    exact hroom
  · have old : ∀ b o, hp.get? b = some o → h'.get? b = some o := fun b o e => k' b o (Nat.ne_of_lt (Nat.lt_succ_of_lt (Heap.lt_size e))) (k b o e)
    have z : hp.objs.size + 1 + 1 ≤ dx := by
      first
        | (simpa only [Heap.size_push] using dn)
        | exact dn
        | (have q := dn; rw [Heap.size_push, Heap.size_push] at q; exact q)
    exact ⟨rfl, hq h' tk' (hp.objs.size + 1) dx ⟨old, Nat.le_succ _, ⟨_, _, hx, rfl, rfl, rfl, rfl⟩, Nat.le_trans (Nat.le_trans (Nat.le_succ _) (Nat.le_succ _)) z, dne, hns⟩⟩
end
end OneX
end PySem
namespace L2
open PySem PySem.Spec PyProof.Rows
theorem relO_low {fl : Str} {v : V} {v' : Value} (r : RelV v v') (f : Str) : RelO (List.lookup f [(fl, v)]) (if f = fl then some v' else none) := by
  by_cases hw : f = fl
  · subst hw
    rw [if_pos rfl]
    have q : List.lookup f [(f, v)] = some v := by simp [List.lookup]
    rw [q]
    exact r
  · rw [if_neg hw]
    have qw : (f == fl) = false := by simpa using hw
    have q2 : List.lookup f [(fl, v)] = none := by simp [List.lookup, qw]
    rw [q2]
    trivial
section
variable {X : Cx} {C fI : Addr} {cn fl qn : Str}
/-- Low(e) -/
def tMkLow (fl : Str) (C : Addr) (ta : TA) : St → Hp → XK → Prop := fun σ H Q => ta σ H fun vs H1 => ∃ v, vs = [v] ∧ ∀ d, H1 d = none → Q (.ref C) (some d) (upd H1 d (.xd [(fl, v)]))
theorem pmk_low {a : Expr} {ta : TA} {p pos : Pos} {k : Nat} (T : PySem.OneX.LowTxt cn fl qn X.K X.mg C fI) (hr : Room k X.A) (ha : PA X [a] ta) (hg : Gl X cn)
    (hdb : (cn == ("__debug__" : Str)) = false) (he : starEach (a :: []) X.env = (false, eval a X.env) :: starEach [] X.env := by rfl) (hpl : (backTo pos (starEach [] X.env)).any (·.1) = false := by rfl) :
    PMk X (.Call (.Name cn p) [a] [] pos) (tMkLow fl C ta) := by
  intro pins s σ H Q I h
  refine wpAny_Call_Name_kw (ld_glob I hg T.gC ?_ hdb)
  refine PySem.W.callWith_K (h₀ := X.base) I.ok.mod.kin T.kC (thn (ha.run pos pins s σ H _ I h) fun us s1 hh => ?_) he hpl
  obtain ⟨vs, H1, I1, r1, v, ev, q1⟩ := hh
  subst ev
  refine ⟨I1.kIn, ?_⟩
  cases r1 with
  | cons rv rn =>
    rename_i v' us'
    cases rn
    show wpAny _ _ (call (.ref C) [v']) _ _ _
    have hlim := I1.nolimit
    obtain ⟨hp, g, dr, tk, os⟩ := s1
    refine wpAny_call (PySem.OneX.low_made T I1.kIn hlim (by have := hr.dp; omega) fun h' tk' e d M => ?_)
    show MkP X pins σ Q (.ref e) ⟨h', g, dr, tk', os⟩
    obtain ⟨oe, fv, hoe, hc, hd, hdat, h1⟩ := M.obj
    have hns := M.ns
    obtain ⟨G', g1, g2⟩ := restrict h' fun b => decide (b ≠ e)
    have gk : ∀ b, b ≠ e → G'.get? b = h'.get? b := fun b hb => g1 b (decide_eq_true hb)
    have ge : G'.get? e = none := g2 e (by simp)
    have old : ∀ b o, hp.get? b = some o → G'.get? b = some o := fun b o q => (gk b (Nat.ne_of_lt (Nat.lt_of_lt_of_le (Heap.lt_size q) M.new))).trans (M.keep b o q)
    have ob : ObjOk X.prog X.w (upd H1 d (.xd [(fl, v)])) G' d (.xd [(fl, v)]) :=
      ⟨_, hns.at (fun o q => (gk d M.dne).trans q), fun f => relO_low rv f⟩
    have J : Inv X pins σ (upd H1 d (.xd [(fl, v)])) ⟨G', g, dr, tk', os⟩ := I1.laid (t' := tk') old M.dbig ob
    refine ⟨e, oe, fv, ⟨G', g, dr, tk', os⟩, _, .ref C, some d, rfl, J, fun b o q => ?_, ge, hoe, ⟨hc, hd⟩, hdat, h1, ?_, rfl, I1.bare, raises_own T.exC T.tyC, q1 d (I1.hok.fresh M.dbig)⟩
    · by_cases hb : b = e
      · have q' : G'.get? b = some o := q
        rw [hb, ge] at q'; cases q'
      · exact (gk b hb).symm.trans q
    · rw [upd_ne (Ne.symm M.dne)]
      exact I1.hok.fresh M.new
/-- raise Low(e) -/
def tRaiseLow (fl : Str) (C : Addr) (W : WX) (ta : TA) : TS := fun _ σ H => tMkLow fl C ta σ H fun cls d H' => W cls d σ H'
theorem ps_raiseLow {a : Expr} {ta : TA} {W : WX} {p pos pos2 : Pos} {k : Nat} (hc : X.calm = true) (T : PySem.OneX.LowTxt cn fl qn X.K X.mg C fI) (hr : Room k X.A) (tk : Takes X W) (ha : PA X [a] ta) (hg : Gl X cn)
    (hdb : (cn == ("__debug__" : Str)) = false) (he : starEach (a :: []) X.env = (false, eval a X.env) :: starEach [] X.env := by rfl) (hpl : (backTo pos (starEach [] X.env)).any (·.1) = false := by rfl) :
    PS X (.Raise (some (.Call (.Name cn p) [a] [] pos)) none pos2) (tRaiseLow fl C W ta) := ps_raise hc tk (pmk_low T hr ha hg hdb he hpl)
/-- low.by, low the exception that the suite holds (at a; its class cls, its dict d) -/
def tByLow (fl : Str) (C : Addr) (a : Addr) (cls : Value) (d : Option Addr) (te : TE) : TE := fun σ H Q => te σ H fun x H1 => x = .ref a ∧ cls = .ref C ∧ ∃ (dd : Addr) (v : V), d = some dd ∧ H1 dd = some (.xd [(fl, v)]) ∧ Q v H1
theorem pe_byLow {a : Addr} {oe : Obj} {cls : Value} {d : Option Addr} {pn : List (Addr × Obj)} {e : Expr} {te : TE} {pos : Pos} (T : PySem.OneX.LowTxt cn fl qn X.K X.mg C fI) (hz : Zc cls d oe) (hf : ∃ vs, oe.data = .fields vs) (he : PE (X.suite a ((a, oe) :: pn)) e te)
    (hb : attributeBase e fl X.env (eval e X.env) = eval e X.env := by rfl) :
    PE (X.suite a ((a, oe) :: pn)) (.Attribute e fl pos) (tByLow fl C a cls d te) := by
  refine ⟨fun pins s σ H Q I h => ?_⟩
  refine attr_of hb (thn (he.run pins s σ H _ I h) fun u s1 hh => ?_)
  obtain ⟨x, H1, I1, rx, ex, ec, dd, v, ed, ea, q⟩ := hh
  subst ex
  obtain rfl : u = Value.ref a := rx
  subst ec
  subst ed
  obtain ⟨ha, _⟩ := I1.pin (a, oe) (List.mem_append_left _ List.mem_cons_self)
  obtain ⟨vs, hd⟩ := hf
  have hx : ObjOk X.prog X.w H1 s1.heap dd (.xd [(fl, v)]) := I1.hok dd _ ea
  obtain ⟨mA, hns, hr⟩ := hx
  obtain ⟨od, ho, hl⟩ := lookIn_ns hns
  have l : List.lookup fl [(fl, v)] = some v := by simp [List.lookup]
  obtain ⟨u, hu, ru⟩ := RelO.some_of (v := v) (o := mA fl) (by rw [← l]; exact hr fl)
  have J : PySem.W.InstAt s1.heap a oe C (some od) := ⟨ha, hz.1, by unfold PySem.W.notCls; rw [hd] <;> rfl, by rw [hz.2]; exact ho⟩
  exact HandSPX.exc_get I1.kIn J T.ga T.gg T.exC (PySem.W.findObj_own T.hdC T.noN rfl (by rw [hl, hu])) (handed_of ru) ⟨v, H1, I1.tok _, ru, q⟩
end
end L2

set_option Elab.async false
set_option linter.all false
set_option maxRecDepth 100000
set_option maxHeartbeats 2000000
/-! EVt: what is asked of a caught error; raise; try. -/
namespace PySem.W
open PySem PySem.Spec PySem.Calls PyProof.Rows
section
variable {prog : Program} {w : World} {A : Around} {E : Value → Shared → Prop} {s : Shared} {K : Frag} {x D : Addr} {ox : Obj} {odo : Option Obj}
theorem evx_find {C : Addr} {name : Str} {a g : Value} (hc : (clsIn K C).isSome = true) (ha : findIn K (.ref C) name = some (some a)) (hg : specialIn K a "__get__" = some (some g)) (ht : takesIn K a = some true) : findObj K C odo name = some (.bind g a) := by
  obtain ⟨cd, e⟩ := Option.isSome_iff_exists.mp hc
  unfold findObj
  rw [e, Option.bind_some, ha, Option.bind_some]
  simp [hg, ht]
/-- e.__class__, as isinstance asks for it; the error may have a dict of its own -/
theorem evx_class {Q : Option Value → Shared → Prop} (F : L2.ExcC K D) (X : K.In s.heap) (I : InstAt s.heap x ox D odo) (h : Q (some (.ref D)) { s with toks := s.toks + 1 }) : wpAny (model prog w) A (getAttr? (.ref x) "__class__") Q E s := by
  have hf : findObj K D odo "__class__" = some (.bind (.builtin "getset_descriptor.__get__") (.builtin "object.__class__")) := evx_find (by obtain ⟨cd, hc, _⟩ := any_some F.hd; rw [hc]; rfl) F.ha F.hn F.ht
  obtain ⟨hp, g, d, t, os⟩ := s
  have T0 := I.type (M := model prog w)
  have T1 := looks_findIn (M := model prog w) X F.hg
  have T2 := looks_findIn (M := model prog w) X F.hk
  have T3 := looks_find (M := model prog w) X I hf
  have sub : Looks (model prog w) hp (isInstance (.ref x) (.type "BaseException")) true := T0.andThen (looks_subIn X F.hs)
  have nob : (onTheHeap (Value.ref D) && Value.builtin "BaseException.__getattribute__" == Value.builtin "object.__getattribute__") = false := by
    rw [show (Value.builtin "BaseException.__getattribute__" == Value.builtin "object.__getattribute__") = false from by decide +kernel]
    rfl
  unfold getAttr? getAttrBy? getAttrBy
  refine wpAny_bind (wpAny_mkText (wpAny_bind (wpAny_attempt (wpAny_holding (wpAny_bind (T0.at (wpAny_bind (T1.at ?_))))))))
  show wpAny _ _ (if (onTheHeap (Value.ref D) && Value.builtin "BaseException.__getattribute__" == Value.builtin "object.__getattribute__") = true then _ else _) _ _ _
  rw [nob, if_neg Bool.false_ne_true]
  unfold getAttrByItsOwn hookBefore
  refine wpAny_bind ?_
  rw [if_pos (show onTheHeap (Value.ref D) = true from rfl)]
  refine T2.at (wpAny_bind (wpAny_attempt (wpAny_holding ?_)))
  unfold callGetattribute
  rw [show (false && onTheHeap (Value.builtin "BaseException.__getattribute__")) = false from rfl, if_neg Bool.false_ne_true]
  unfold boundAndCalled
  rw [PySem.F.excAttr_ValueError.ga.bind (.ref x)]
  refine wpAny_bind (wpAny_pure ?_)
  show wpAny _ _ (call (.builtin "BaseException.__getattribute__") [.ref x, .str "__class__" t]) _ _ _
  refine wpAny_call (codeAny_call_builtin PySem.F.excAttr_ValueError.ga.plain PySem.F.entry_bexc_ga ?_)
  refine @check_slot (model prog w) _ _ ⟨hp, g, d, t + 1, os⟩ "BaseException.__getattribute__" "BaseException" "__getattribute__" (.ref x) [.str "__class__" t] [] _ (by decide +kernel) (by decide +kernel) sub (PySem.F.args_bexc_ga (.ref x) (.str "__class__" t)) ?_
  unfold Builtin.«object.__getattribute__»
  refine wpAny_bind (wpAny_of_eq (a := ((Value.ref x : Value), [Value.str "__class__" t])) (by first | rfl | (simp only [slotArgs]; rfl)) ?_)
  refine wpAny_bind (wpAny_pure (wpAny_bind (T0.at (wpAny_bind (T3.at ?_)))))
  show wpAny _ _ (holding [Value.builtin "object.__class__"] (call (.builtin "getset_descriptor.__get__") [.builtin "object.__class__", .ref x, .ref D]) >>= ret) _ _ _
  refine wpAny_bind (wpAny_holding (wpAny_call (class_get (s := ⟨hp, g, d, t + 1, os⟩) (ox := ox) (od := odo) X I F.hm ?_)))
  refine wpAny_pure ?_
  show wpAny _ _ (handedOut (.ref D)) _ _ _
  rw [handedOut_of (v := .ref D) rfl]
  first
    | exact wpAny_pure (wpAny_pure h)
    | exact wpAny_pure h
    | exact wpAny_pure (wpAny_bind (wpAny_pure (wpAny_pure h)))
theorem evx_kit (F : L2.ExcC K D) : KitX K (.ref x) (.ref D) (fun h => ∃ odo, InstAt h x ox D odo) where
  ty := fun _ _ _ ⟨_, I⟩ => I.type
  it := fun _ _ X _ => by
    obtain ⟨_, hcD, _⟩ := any_some F.hd
    unfold clsIn at hcD
    split at hcD
    · rename_i ho
      intro A Q E s k q
      unfold isType loadHead
      exact wpAny_bind (wpAny_loadPart (k _ _ (X _ _ ho)) (wpAny_pure q))
    · cases hcD
  ne := (handS_kitx_exc (x := x) (ox := ox) F.hg F.hk F.hs F.hd F.ha F.hn F.ht F.hm).ne
  ca := fun X ⟨_, I⟩ k => evx_class F X I k
end
end PySem.W

namespace EV
open PySem PySem.Spec PyProof.Rows L2
/-- isinstance(e, ..) of the error e that the suite holds at a -/
def rIsX (K : PySem.W.Frag) (D a : Addr) (d : Option Addr) : List V → Hp → VK → Prop := fun xs H Q => ∃ (c : V) (b : Bool), xs = [.ref a, c] ∧ (d = none ∨ ∃ dd fs, d = some dd ∧ H dd = some (.xd fs)) ∧
  ((∃ cc, c = .ref cc ∧ PySem.W.kitOne K (.ref D) (.ref cc) = some b) ∨ ∃ (tp : Addr) (ws : List Addr), c = .ref tp ∧ H tp = some (.tup (ws.map V.ref)) ∧ PySem.W.kitAny K (.ref D) (ws.map Value.ref) = some b) ∧ Q (.bl b) H
theorem refs_of : ∀ {ws : List Addr} {us : List Value}, Vals (ws.map V.ref) us → us = ws.map Value.ref
  | [], _, .nil => rfl
  | w :: ws, _, .cons r rr => by
    rw [refs_of rr]
    cases r
    rfl
theorem call_isX {X : Cx} {a D : Addr} {d : Option Addr} {oe : Obj} {pn : List (Addr × Obj)} (C : ExcC X.K D) (hz : Zc (.ref D) d oe) (hf : ∃ vs, oe.data = .fields vs) : CallR (X.suite a ((a, oe) :: pn)) (.builtin "isinstance") (rIsX X.K D a d) := by
  intro pins s σ H xs us Q I r h
  obtain ⟨c, b, rfl, hd, hc, q⟩ := h
  cases r with
  | cons rx rr =>
    cases rr with
    | cons rt rr =>
      cases rr
      cases rx
      obtain ⟨hget, _⟩ := I.pin (a, oe) (List.mem_append.mpr (.inl List.mem_cons_self))
      obtain ⟨vs, hv⟩ := hf
      have no : PySem.W.notCls oe = true := by unfold PySem.W.notCls; rw [hv] <;> rfl
      have J : ∃ odo, PySem.W.InstAt s.heap a oe D odo := by
        rcases hd with rfl | ⟨dd, fs, rfl, e⟩
        · exact ⟨none, hget, hz.1, no, by rw [hz.2]; trivial⟩
        · have hx : ObjOk X.prog X.w H s.heap dd (.xd fs) := I.hok dd _ e
          obtain ⟨mA, hns, _⟩ := hx
          obtain ⟨od, ho, _⟩ := lookIn_ns hns
          exact ⟨some od, hget, hz.1, no, by rw [hz.2]; exact ho⟩
      rcases hc with ⟨cc, rfl, e⟩ | ⟨tp, ws, rfl, ht, e⟩
      · cases rt
        exact PySem.W.kia_one (PySem.W.evx_kit C) I.kIn J e (fun z => nomatch z) fun tk => ⟨.bl b, H, I.kept (t' := tk) fun _ _ z => z, rfl, q⟩
      · cases rt
        have hx : ObjOk X.prog X.w H s.heap tp (.tup (ws.map V.ref)) := I.hok tp _ ht
        obtain ⟨_, its, rv, o, ho, hcl, n, hdat⟩ := hx
        obtain rfl := refs_of rv
        obtain ⟨oc, od, oda, osl⟩ := o
        dsimp only at hcl hdat
        subst hcl hdat
        exact PySem.W.kia_tup (PySem.W.evx_kit C) I.kIn J ho e (fun z => nomatch z) fun tk => ⟨.bl b, H, I.kept (t' := tk) fun _ _ z => z, rfl, q⟩
end EV
set_option Elab.async false
set_option linter.all false
set_option maxRecDepth 100000
set_option maxHeartbeats 2000000
/-! EVu: caught errors, raise, try, as judgements. -/
namespace EV
open PySem PySem.Spec PyProof.Rows L2

/-- the program's own classes of errors -/
structure XT (S : Sg) : Prop where
  kit : ∀ d c, d < S.EC.nc → c < S.EC.nc → PySem.W.kitOne S.g.K (.ref (S.g.ca d)) (.ref (S.g.ca c)) = some (subc S.EC.par 8 d c)
  exm : ∀ d c, d < S.EC.nc → c < S.EC.nc → PySem.W.exmOne S.g.K (.ref (S.g.ca d)) (.ref (S.g.ca c)) = some (subc S.EC.par 8 d c)
  exc : ∀ d, d < S.EC.nc → ExcC S.g.K (S.g.ca d)
section
variable {S : Sg} {sc : Scope} {q : Nat} {e a b c d tg src : Expr} {ia ib ic id : IR} {pos : Pos} {st : Stmt} {s : Sm} {sts : List Stmt} {ss : Ss}
theorem SE.fn {x : Str} (f : Nat) (hg : GlS sc x = true) (hm : S.mg x = some (.ref (S.g.fa f))) (hd : (x == ("__debug__" : Str)) = false) : SE S sc q (.Name x pos) (.cst (.fn f)) := fun xa W X C =>
  se_cst (v := .ref (S.g.fa f)) (pe_glob (glS C.sc hg) (by rw [C.mg]; exact hm) rfl hd) fun F => .fn f
theorem SE.cls {x : Str} (f : Nat) (hg : GlS sc x = true) (hm : S.mg x = some (.ref (S.g.ca f))) (hd : (x == ("__debug__" : Str)) = false) : SE S sc q (.Name x pos) (.cst (.cls f)) := fun xa W X C =>
  se_cst (v := .ref (S.g.ca f)) (pe_glob (glS C.sc hg) (by rw [C.mg]; exact hm) rfl hd) fun F => .cls f
theorem SE.ty {x : Str} (t : Nat) (hg : GlS sc x = true) (hm : S.mg x = none) (hv : bootBuiltins x = some (.type (tyN t))) (hn : x ≠ "__name__") (hd : (x == ("__debug__" : Str)) = false) : SE S sc q (.Name x pos) (.cst (.ty t)) := fun xa W X C =>
  se_cst (v := .ty (tyN t)) (pe_bltn (glS C.sc hg) (by rw [C.mg]; exact hm) hv rfl hn hd) fun F => .ty t
/-- what the slot of a caught error says -/
def XcR (g : Gh) (F H : Hp) (d : Option Addr) (c : Nat) : Option PV → Prop
  | none => d = none
  | some x => ∃ da u, d = some da ∧ H da = some (.xd [(g.xn c, u)]) ∧ RepV g F u x
theorem xc_slot {g : Gh} {xa : Option (Addr × Value × Option Addr)} {F0 H0 F H : Hp} {σ : L2.St} {env : Env} {i c : Nat} {f : Option PV} (R : Rel g xa F0 H0 F σ H env) (h : env[i]? = some (.xc c f)) :
    ∃ a d, xa = some (a, .ref (g.ca c), d) ∧ σ[i]? = some (some (.ref a)) ∧ XcR g F H d c f := by
  have hs := R.sl i
  rw [h] at hs
  obtain ⟨a, d, h1, h2, h3⟩ := hs
  refine ⟨a, d, h1, h2, ?_⟩
  cases f with
  | none => exact h3
  | some x =>
    obtain ⟨da, u, h4, h5, h6⟩ := h3
    refine ⟨da, u, h4, ?_, h6⟩
    rcases R.fx.fh da _ h5 with h7 | ⟨l, _⟩
    · exact h7
    · exact l.elim
theorem kit_any (T : XT S) {dd : Nat} (h : dd < S.EC.nc) : ∀ cs : List Nat, (∀ c ∈ cs, c < S.EC.nc) → PySem.W.kitAny S.g.K (.ref (S.g.ca dd)) ((cs.map S.g.ca).map Value.ref) = some (cs.any fun k => subc S.EC.par 8 dd k)
  | [], _ => rfl
  | k :: r, hb => by
    have ih := kit_any T h r fun c hc => hb c (List.mem_cons_of_mem _ hc)
    simp only [List.map_cons, PySem.W.kitAny]
    rw [T.kit dd k h (hb k List.mem_cons_self)]
    cases hk : subc S.EC.par 8 dd k with
    | true => simp [hk]
    | false =>
      simp only [List.any_cons, hk, Bool.false_or]
      exact ih
/-- isinstance of a caught error: the second argument by a reading that gives the classes -/
theorem xis_red {X : Cx} {xa : Option (Addr × Value × Option Addr)} {W : WX} {i : Nat} {cs : List Nat} {cexpr : Expr} {x y : Str} {p p2 : Pos} {tc : TE} (C : CxO S sc 0 xa W X) (T : XT S) (hN : S.N[i]? = some x) (hv : VisS sc x = true) (hd : (x == ("__debug__" : Str) || x == ("__classdict__" : Str)) = false)
    (hy : y = "isinstance") (hg : GlS sc "isinstance" = true) (hm : S.mg "isinstance" = none) (hp : plE cexpr = true) (hc : PE X cexpr tc)
    (ht : ∀ (σ : L2.St) (H : Hp) (Q : VK), (∀ c H', Ext H H' → (∀ F, FLe F H → Fx F H F H') → ((∃ k, cs = [k] ∧ c = .ref (S.g.ca k)) ∨ ∃ tp, c = .ref tp ∧ H' tp = some (.tup (cs.map fun k => V.ref (S.g.ca k)))) → Q c H') → tc σ H Q) :
    PE X (.Call (.Name y p) [.Name x p2, cexpr] [] pos) (rd S.g xa W fun env => ev S.EC false (.xis i cs) env) := by
  subst hy
  simp only [Bool.or_eq_false_iff] at hd
  have vx := visS hv
  rw [← C.sc] at vx
  refine ⟨fun pins s σ H Q I h => ?_⟩
  obtain ⟨F0, H0, F, env, R, pp⟩ := h
  simp only [ev] at pp
  cases ei : env[i]? with
  | none => rw [ei] at pp; exact pp.elim
  | some sl =>
    rw [ei] at pp
    cases sl with
    | xc dd f =>
      simp only [xisR] at pp
      split at pp
      · rename_i hb
        simp only [Bool.and_eq_true, decide_eq_true_eq, List.all_eq_true] at hb
        obtain ⟨hb1, hb2⟩ := hb
        obtain ⟨a0, d0, hxa, hs, hf⟩ := xc_slot R ei
        obtain ⟨X0, oe, pn, hX, hz, hfl⟩ := C.xs _ _ _ hxa
        have cls : ExcC X.K (S.g.ca dd) := by rw [← C.K]; exact T.exc dd hb1
        have hcr : CallR X (.builtin "isinstance") (rIsX X.K (S.g.ca dd) a0 d0) := by
          subst hX
          exact call_isX (X := X0) cls hz hfl
        refine (pe_callB hcr (glS C.sc hg) (by rw [C.mg]; exact hm) (by rfl) (pa_cons (pe_var (i := i) (by rw [C.N]; exact hN) vx hd.1 hd.2) (pa_cons hc pa_nil (star_pl hp)) rfl) (by decide) (by decide) rfl (by rw [star_pl hp]; rfl)).run pins s σ H Q I ?_
        refine ⟨_, hs, ht σ H _ fun c H' e fx hc => ⟨c, cs.any fun k => subc S.EC.par 8 dd k, rfl, ?_, ?_, ?_⟩⟩
        · cases f with
          | none => exact .inl hf
          | some v =>
            obtain ⟨da, u, h4, h5, _⟩ := hf
            exact .inr ⟨da, _, h4, e _ _ h5⟩
        · rcases hc with ⟨k, rfl, rfl⟩ | ⟨tp, rfl, h⟩
          · refine .inl ⟨_, rfl, ?_⟩
            rw [← C.K, T.kit dd k hb1 (hb2 k (by simp))]
            simp
          · refine .inr ⟨tp, cs.map S.g.ca, rfl, by rw [List.map_map]; exact h, ?_⟩
            rw [← C.K]
            exact kit_any T hb1 cs hb2
        · exact pp (.bl _) F H' e (fx F R.fx.fh) (.bl _)
      · exact pp.elim
    | _ => exact pp.elim
theorem SE.xis1 {x y cn : Str} {p p2 p3 : Pos} (T : XT S) (i k : Nat) (hq : q = 0) (hN : S.N[i]? = some x) (hv : VisS sc x = true) (hd : (x == ("__debug__" : Str) || x == ("__classdict__" : Str)) = false)
    (hy : y = "isinstance") (hg : GlS sc "isinstance" = true) (hm : S.mg "isinstance" = none) (hc : GlS sc cn = true) (hcm : S.mg cn = some (.ref (S.g.ca k))) (hcd : (cn == ("__debug__" : Str)) = false) :
    SE S sc q (.Call (.Name y p) [.Name x p2, .Name cn p3] [] pos) (.xis i [k]) := fun xa W X C => by
  subst hq
  exact xis_red C T hN hv hd hy hg hm rfl (pe_glob (v := .ref (S.g.ca k)) (glS C.sc hc) (by rw [C.mg]; exact hcm) rfl hcd) fun σ H Q h => h _ H (.refl H) (fun F f => .refl f) (.inl ⟨k, rfl, rfl⟩)
/-- names of classes, one after another -/
inductive ClsNames (S : Sg) (sc : Scope) : List Expr → List Nat → Prop
  | nil : ClsNames S sc [] []
  | cons {cn : Str} {p3 : Pos} {es : List Expr} {ks : List Nat} (k : Nat) : GlS sc cn = true → S.mg cn = some (.ref (S.g.ca k)) → (cn == ("__debug__" : Str)) = false → ClsNames S sc es ks → ClsNames S sc (.Name cn p3 :: es) (k :: ks)
theorem cls_pa {X : Cx} {xa : Option (Addr × Value × Option Addr)} {W : WX} (C : CxO S sc q xa W X) : ∀ {es : List Expr} {ks : List Nat}, ClsNames S sc es ks → PA X es (fun σ H Q => Q (ks.map fun k => V.ref (S.g.ca k)) H)
  | _, _, .nil => pa_nil
  | _, _, .cons k h1 h2 h3 r => pa_cons (pe_glob (v := .ref (S.g.ca k)) (glS C.sc h1) (by rw [C.mg]; exact h2) rfl h3) (cls_pa C r) rfl
theorem SE.xisT {x y : Str} {p p2 p3 : Pos} {es : List Expr} {x1} {ks : List Nat} (T : XT S) (i : Nat) (hq : q = 0) (hN : S.N[i]? = some x) (hv : VisS sc x = true) (hd : (x == ("__debug__" : Str) || x == ("__classdict__" : Str)) = false)
    (hy : y = "isinstance") (hg : GlS sc "isinstance" = true) (hm : S.mg "isinstance" = none) (hl : ks.length ≤ 100) (hc : ClsNames S sc es ks) :
    SE S sc q (.Call (.Name y p) [.Name x p2, .Tuple es x1 p3] [] pos) (.xis i ks) := fun xa W X C => by
  subst hq
  refine xis_red C T hN hv hd hy hg hm rfl (pe_tup (cls_pa C hc)) fun σ H Q h => ⟨by rw [List.length_map]; exact Nat.le_trans hl (by decide), fun p hp => ?_⟩
  exact h _ _ (.new hp) (fun F f => .lay f hp) (.inr ⟨p, rfl, upd_same⟩)
/-- the field of a caught error -/
theorem SE.xfl {x fl cn qn : Str} {p : Pos} {fI : Addr} (i c : Nat) (T : PySem.OneX.LowTxt cn fl qn S.g.K S.mg (S.g.ca c) fI) (hf : S.g.xn c = fl) (hq : q = 0) (hN : S.N[i]? = some x) (hv : VisS sc x = true) (hd : (x == ("__debug__" : Str) || x == ("__classdict__" : Str)) = false) :
    SE S sc q (.Attribute (.Name x p) fl pos) (.xfl i c) := fun xa W X C => by
  subst hq
  simp only [Bool.or_eq_false_iff] at hd
  have vx := visS hv
  rw [← C.sc] at vx
  refine ⟨fun pins s σ H Q I h => ?_⟩
  obtain ⟨F0, H0, F, env, R, pp⟩ := h
  simp only [ev] at pp
  cases ei : env[i]? with
  | none => rw [ei] at pp; exact pp.elim
  | some sl =>
    rw [ei] at pp
    cases sl with
    | xc dd f =>
      cases f with
      | none => exact pp.elim
      | some v =>
        simp only [xflR] at pp
        split at pp
        · rename_i hcd
          subst hcd
          obtain ⟨a0, d0, hxa, hs, da, u, h4, h5, h6⟩ := xc_slot R ei
          obtain ⟨X0, oe, pn, hX, hz, hfl⟩ := C.xs _ _ _ hxa
          have hvar := pe_var (X := X) (i := i) (pos := p) (by rw [C.N]; exact hN) vx hd.1 hd.2
          have T' : PySem.OneX.LowTxt cn fl qn X.K X.mg (S.g.ca c) fI := by rw [← C.K, C.mg]; exact T
          have fin : tByLow fl (S.g.ca c) a0 (.ref (S.g.ca c)) d0 (tVar i) σ H Q := by
            refine ⟨_, hs, rfl, rfl, da, u, h4, by rw [← hf]; exact h5, ?_⟩
            exact pp u F H (.refl H) (.refl R.fx.fh) h6
          subst hX
          exact (pe_byLow (X := X0) T' hz hfl hvar rfl).run pins s σ H Q I fin
        · exact pp.elim
    | _ => exact pp.elim
theorem SS.rai {fl cn qn : Str} {p p2 : Pos} {fI : Addr} (c : Nat) (T : PySem.OneX.LowTxt cn fl qn S.g.K S.mg (S.g.ca c) fI) (hf : S.g.xn c = fl) (hq : 2 ≤ q) (hg : GlS sc cn = true) (hdb : (cn == ("__debug__" : Str)) = false) (hp : plE a = true) (ha : SE S sc q a ia) :
    SS S sc q (.Raise (some (.Call (.Name cn p) [a] [] p2)) none pos) (.rai c (.cons ia .nil)) := fun xa W X C => by
  obtain ⟨_, _, _, tk⟩ := C.top hq
  have hq1 : 1 ≤ q := by omega
  have T' : PySem.OneX.LowTxt cn fl qn X.K X.mg (S.g.ca c) fI := by rw [← C.K, C.mg]; exact T
  obtain ⟨lev, _, _, _, hr, _⟩ := C.kn hq1 0
  refine (ps_raiseLow (C.cl hq1) T' hr tk (pa_cons (ha xa W X C) pa_nil (star_pl hp)) (glS C.sc hg) hdb (star_pl hp) rfl).imp fun D σ H ⟨F0, H0, F, env, R, pp⟩ => ?_
  show rd S.g xa W _ σ H _
  refine ⟨F0, H0, F, env, R, ?_⟩
  simp only [exec, evs] at pp
  dsimp only
  cases e1 : ev S.EC false ia env with
  | bad => rw [e1] at pp; exact pp.elim
  | ex x => rw [e1] at pp; exact fun d F1 H1 e fx xr => pp d σ F1 H1 fx.ff (R.mono e fx) xr
  | ok m v =>
    rw [e1] at pp
    intro u F1 H1 ex fx vr
    cases m with
    | bo => exact pp.elim
    | _ =>
      obtain ⟨F2, fx2, ff2, r2⟩ := VRep.keep (by decide) fx vr
      have R2 := R.mono ex fx2
      refine ⟨u, rfl, fun d hd => ?_⟩
      have f3 := Fx.freeze (u := .xd [(fl, u)]) fx2.fh hd
      refine pp (some d) σ _ _ (fx2.ff.trans f3.ff) (R2.mono (.new hd) f3) ⟨d, u, rfl, ?_, r2.mono f3.ff⟩
      rw [upd_same, hf]
end
end EV
set_option Elab.async false
set_option linter.all false
set_option maxRecDepth 100000
set_option maxHeartbeats 2000000
/-! EVv: try .. except. -/
namespace EV
open PySem PySem.Spec PyProof.Rows L2
section
variable {g : Gh} {xa : Option (Addr × Value × Option Addr)} {W : WX} {σ : L2.St} {F0 H0 F F1 H : Hp} {env : Env} {D D' : Ends} {Q : VK}
theorem unx_get (e : Env) (i : Nat) : (unx e)[i]? = (e[i]?).map unx1 := by
  unfold unx
  rw [List.getElem?_map]
theorem unx_ow {e : Env} {i : Nat} {x : PV} (h : (unx e)[i]? = some (.ow x)) : e[i]? = some (.ow x) := by
  rw [unx_get] at h
  cases e1 : e[i]? with
  | none => rw [e1] at h; cases h
  | some sl =>
    rw [e1] at h
    cases sl <;> simp [unx1] at h
    rw [h]
theorem Rel.unx (R : Rel g xa F0 H0 F σ H env) : Rel g none F0 H0 F σ H (EV.unx env) :=
  ⟨R.ext, R.fx, by rw [R.len]; simp [EV.unx], fun i => by
    have h := R.sl i
    rw [unx_get]
    revert h
    cases env[i]? with
    | none => exact fun _ => trivial
    | some sl =>
      cases sl with
      | un => exact fun _ => trivial
      | sh v => exact fun h => h
      | ow v => exact fun h => h
      | xc c f => exact fun _ => trivial, fun i j x y p hij e1 e2 e3 => R.ap i j x y p hij (unx_ow e1) (unx_ow e2) e3⟩
theorem Rel.none_xa (R : Rel g none F0 H0 F σ H env) (xa' : Option (Addr × Value × Option Addr)) : Rel g xa' F0 H0 F σ H env :=
  ⟨R.ext, R.fx, R.len, fun i => by
    have h := R.sl i
    revert h
    cases env[i]? with
    | none => exact fun _ => trivial
    | some sl =>
      cases sl with
      | un => exact fun _ => trivial
      | sh v => exact fun h => h
      | ow v => exact fun h => h
      | xc c f => exact fun ⟨_, _, z, _⟩ => (nomatch z), R.ap⟩
/-- the error is held in a slot -/
theorem Rel.setXc {x : Ex} {a : Addr} {d : Option Addr} (R : Rel g none F0 H0 F σ H env) (i : Nat) (xr : XRep g F d x) : Rel g (some (a, .ref (g.ca x.c), d)) F0 H0 F (σ.set i (some (.ref a))) H (env.set i (.xc x.c x.f)) := by
  have R' := R.none_xa (some (a, .ref (g.ca x.c), d))
  have ow : ∀ (k : Nat) (b : PV), (env.set i (.xc x.c x.f))[k]? = some (.ow b) → i ≠ k ∧ env[k]? = some (.ow b) := fun k b e => by
    rw [get_set] at e
    by_cases h : i = k
    · rw [if_pos h] at e
      split at e <;> simp at e
    · rw [if_neg h] at e
      exact ⟨h, e⟩
  refine ⟨R'.ext, R'.fx, by simp [R'.len], fun j => ?_, fun j k u v p hjk e1 e2 e3 => ?_⟩
  · rw [get_set, get_set, R'.len]
    by_cases h : i = j
    · rw [if_pos h, if_pos h]
      by_cases hl : i < env.length
      · rw [if_pos hl, if_pos hl]
        refine ⟨a, d, rfl, rfl, ?_⟩
        unfold XRep at xr
        cases hf : x.f with
        | none => rw [hf] at xr; exact xr
        | some v => rw [hf] at xr; exact xr
      · rw [if_neg hl, if_neg hl]
        trivial
    · rw [if_neg h, if_neg h]
      exact R'.sl j
  · obtain ⟨h1, e1⟩ := ow j u e1
    obtain ⟨h2, e2⟩ := ow k v e2
    rw [get_set, if_neg h1] at e3
    rw [get_set, if_neg h2]
    exact R'.ap j k u v p hjk e1 e2 e3
end
section
variable {S : Sg} {sc : Scope} {q : Nat} {pos : Pos}
theorem CxO.tr {xa : Option (Addr × Value × Option Addr)} {W W' : WX} {X : Cx} (C : CxO S sc q xa W X) (hq : 2 ≤ q) {pn : List (Addr × Obj)} {xe : Value → Shared → Prop} (tk : Takes (X.tr pn xe) W') (po : PassesOwn (model X.prog X.w) X.A X.env xe) : CxO S sc q xa W' (X.tr pn xe) where
  K := C.K
  un := C.un
  N := C.N
  nd := C.nd
  mg := C.mg
  sc := C.sc
  cl := C.cl
  kn := fun h => (C.kn h).cast rfl rfl rfl rfl rfl rfl
  pas := fun _ σ => passAt tk σ
  xn := C.xn
  fn := C.fn
  own := fun _ => po
  top := fun _ => let ⟨a, b, c, _⟩ := C.top hq; ⟨a, b, c, tk⟩
  xs := fun a c d e => by rw [C.xn (by omega)] at e; cases e
theorem CxO.suite {xa : Option (Addr × Value × Option Addr)} {W : WX} {X : Cx} (C : CxO S sc q xa W X) {a : Addr} {oe : Obj} {cls : Value} {d : Option Addr} {pn : List (Addr × Obj)} (hz : Zc cls d oe) (hf : ∃ vs, oe.data = .fields vs) :
    CxO S sc 0 (some (a, cls, d)) (fun _ _ _ _ => False) (X.suite a ((a, oe) :: pn)) where
  K := C.K
  un := C.un
  N := C.N
  nd := C.nd
  mg := C.mg
  sc := C.sc
  cl := fun h => absurd h (by decide)
  kn := fun h => absurd h (by decide)
  pas := fun h => absurd h (by decide)
  xn := fun h => absurd h (by decide)
  fn := C.fn
  own := fun _ => PassesOwn.never
  top := fun h => absurd h (by decide)
  xs := fun a' c' d' e => by
    cases e
    exact ⟨X, oe, pn, rfl, hz, hf⟩
theorem SS.tryAs {x n : Str} {np pos' : Pos} {body suite : List Stmt} {b0 : Stmt} {ib is : Ss} (T : XT S) (c i : Nat) (hc : c < S.EC.nc) (hq : 2 ≤ q) (hi : S.N[i]? = some n) (hl : sc.names.lookup n = some .local) (hg : GlS sc x = true) (hm : S.mg x = some (.ref (S.g.ca c))) (hd : (x == ("__debug__" : Str)) = false)
    (hb : SSs S sc q body ib) (hs : SSs S sc 0 (b0 :: suite) is) : SS S sc q (.Try body [.ExceptHandler (some (.Name x np)) (some n) (b0 :: suite) pos'] [] [] pos) (.try ib c (some i) is) := fun xa W X C => by
  obtain ⟨hst, hf, _, tk⟩ := C.top hq
  have hxa := C.xn (by omega)
  subst hxa
  refine (ps_try_as (i := i) (tb := fun W => rdS S.g none W fun env => execs S.EC ib env) (ts := fun a cls d => rdS S.g (some (a, cls, d)) (fun _ _ _ _ => False) fun env => execs S.EC is env) (Wout := W) (c := .ref (S.g.ca c)) hst hf (by rw [C.N]; exact C.nd) (by rw [C.N]; exact hi)
    (by show X.env.scope.names.lookup n = _; rw [C.sc]; exact hl) ⟨glS C.sc hg, hd, .inl (by rw [C.mg]; exact hm)⟩ tk
    (fun W' pn xe tk' po => hb none W' _ (C.tr hq tk' po)) (fun a oe cls d pn hz hf => hs _ _ _ (C.suite hz hf))).imp fun D σ H ⟨F0, H0, F, env, R, p⟩ => ?_
  refine ⟨F0, H0, F, env, R, ?_⟩
  simp only [exec] at p
  dsimp only
  cases er : execs S.EC ib env with
  | nx e => rw [er] at p; exact p
  | bk e => rw [er] at p; exact p
  | ct e => rw [er] at p; exact p
  | rt m v => rw [er] at p; exact p
  | bad => rw [er] at p; exact p
  | ex y e1 =>
    rw [er] at p
    simp only [Fl.hand] at p
    intro d σ' F' H' ff R' xr
    split at p
    · rename_i hlt
      refine ⟨_, by rw [← C.K]; exact T.exm _ _ hlt hc, fun hb a ha => ?_, fun hb => ?_⟩
      · rw [hb, if_pos rfl] at p
        refine ⟨F0, H0, F', _, R'.setXc i xr, ?_⟩
        have p := PostF.mono ff p
        dsimp only
        cases es : execs S.EC is (e1.set i (.xc y.c y.f)) with
        | nx e2 => rw [es] at p; exact fun σ2 F2 H2 f2 R2 => p _ F2 H2 f2 (R2.unx.setUn i none)
        | bk e2 => rw [es] at p; exact fun σ2 F2 H2 f2 R2 => p _ F2 H2 f2 (R2.unx.setUn i none)
        | ct e2 => rw [es] at p; exact fun σ2 F2 H2 f2 R2 => p _ F2 H2 f2 (R2.unx.setUn i none)
        | rt m v => rw [es] at p; exact p
        | ex z e2 => rw [es] at p; exact p.elim
        | bad => rw [es] at p; exact p.elim
      · rw [hb, if_neg Bool.false_ne_true] at p
        exact p d σ' F' H' ff R' xr
    · exact p.elim
end
end EV
set_option Elab.async false
set_option linter.all false
set_option maxRecDepth 100000
set_option maxHeartbeats 2000000
/-! EVw: the defs hold what the evaluator says; the program. -/
namespace EV
open PySem PySem.Spec PyProof.Rows L2

theorem rel_start {g : Gh} {F H : Hp} {N : List Str} {vs : List V} {ps : List PV} (f : FLe F H) (r : RepVs g F vs ps) : Rel g none F H F (L2.start N vs) H (ps.map Sl.sh ++ List.replicate (N.length - ps.length) Sl.un) := by
  have hl := r.length
  have noow : ∀ (i : Nat) (x : PV), (ps.map Sl.sh ++ List.replicate (N.length - ps.length) Sl.un)[i]? ≠ some (.ow x) := fun i x e => by
    by_cases hi : i < ps.length
    · rw [List.getElem?_append_left (by simpa using hi), List.getElem?_map] at e
      cases e1 : ps[i]? with
      | none => rw [e1] at e; cases e
      | some a => rw [e1] at e; cases e
    · rw [List.getElem?_append_right (by simpa using hi), List.getElem?_replicate] at e
      split at e <;> cases e
  refine ⟨.refl H, .refl f, by unfold L2.start; simp [hl], fun i => ?_, fun i j x y p hij e1 => absurd e1 (noow i x)⟩
  by_cases hi : i < ps.length
  · unfold L2.start
    rw [List.getElem?_append_left (by simpa [hl] using hi), List.getElem?_append_left (by simpa using hi), List.getElem?_map, List.getElem?_map]
    obtain ⟨u, hu, ru⟩ := r.get (List.getElem?_eq_getElem hi)
    rw [hu, List.getElem?_eq_getElem hi]
    exact ⟨u, rfl, ru⟩
  · rw [List.getElem?_append_right (by simpa using hi), List.getElem?_replicate]
    split
    · trivial
    · trivial
/-- what is told of a def of the program -/
structure Df where
  st : Stmt
  x : Str
  qual : Str
  N : List Str
  ps : List Str
def sgOf (g : Gh) (mg : Str → Option Value) (P : Pg) (d : Nat) (N : List Str) : Sg := ⟨g, N, mg, ⟨callF P d, P.par, P.nc⟩, fun _ => true⟩
section
variable {Pr : Program} {w : World} {K : PySem.W.Frag} {mg : Str → Option Value} {base : Heap} {g : Gh} {P : Pg}
theorem postF_of {E : XK} {σ σ' : L2.St} {F H : Hp} {r : Fl} {Q : VK} (p : PostE g (fun c d _ H => E c d H) σ F H (ofFl r) Q) : PostF g none (fun c d _ H => E c d H) F H F r { nx := fun _ H' => Q .non H', rt := Q } := by
  cases r with
  | nx e => exact fun σ2 F' H' f R => p .non F' H' R.ext R.fx .non
  | rt m v => exact fun u F' H' f e x vr => p u F' H' e x vr
  | ex x e => exact fun d σ2 F' H' f R xr => p d F' H' R.ext R.fx xr
  | bk e => exact p.elim
  | ct e => exact p.elim
  | bad => exact p.elim
theorem def_ok {D : Df} {fd : FuncData} {fe : Fd} {f d : Nat} (hK : g.K = K) (F : L2.Fun K D.x D.qual D.st (g.fa f) fd) (Sc : FnScope D.N D.ps (defScope D.st)) (hf : P.fds[f]? = some fe) (hn : fe.n = D.N.length) (hk : P.ks.getD f 0 = D.ps.length)
    (hb : SSs (sgOf g mg P d D.N) (defScope D.st) 2 (defBody D.st) fe.body)
    (ih : ∀ (A : Around) (X : Cx), X.prog = Pr → X.w = w → X.K = K → X.mg = mg → X.base = base → Room d X.A → KN g X (callF P d)) :
    FnOk Pr w K mg base (L2.CX Pr w) (d + 1) (g.fa f) fd D.ps (spF g (callF P (d + 1) f)) := by
  have ev1 : ∀ ps : List PV, callF P (d + 1) f ps = if ps.length = D.ps.length then ofFl (execs ⟨callF P d, P.par, P.nc⟩ fe.body (ps.map Sl.sh ++ List.replicate (D.N.length - ps.length) Sl.un)) else .bad := fun ps => by
    simp only [callF, hf, runF, hk, hn]
    by_cases h : ps.length = D.ps.length
    · rw [if_pos h, if_pos h, h]
    · rw [if_neg h, if_neg h]
  refine F.okX Sc (fun vs H Q E h => ?_) fun cdv A outer s H vs Q E hr h => ⟨rdS g none (fun c d _ H => E c d H) fun env => execs ⟨callF P d, P.par, P.nc⟩ fe.body env, ?_, ?_⟩
  · obtain ⟨F0, σ, ps, fl, r, p⟩ := h
    rw [ev1] at p
    split at p
    · rename_i hl
      rw [r.length]
      exact hl
    · exact p.elim
  · refine hb none _ _ ?_
    have tk : Takes (cxOf (L2.CX Pr w) Pr w K mg base D.N D.qual (defScope D.st) (g.fa f) cdv A outer s H E) (fun c d _ H => E c d H) := takes_of rfl rfl rfl rfl
    exact {
      K := hK
      un := by have := hr.un; show (A.deeper _).units + 160 < cLine; omega
      N := rfl
      nd := Sc.nd
      mg := rfl
      sc := rfl
      cl := fun _ => rfl
      kn := fun _ => ih A _ rfl rfl rfl rfl rfl hr
      pas := fun _ σ => passAt tk σ
      xn := fun _ => rfl
      fn := rfl
      own := fun _ => passes_of rfl
      top := fun _ => ⟨rfl, rfl, rfl, tk⟩
      xs := fun _ _ _ e => nomatch e }
  · obtain ⟨F0, σ, ps, fl, r, p⟩ := h
    rw [ev1] at p
    split at p
    · exact ⟨F0, H, F0, _, rel_start fl r, postF_of (σ' := σ) p⟩
    · exact p.elim
/-- a def of which nothing is promised -/
theorem fn_never {lev : Nat} {f : Addr} {fd : FuncData} {ps : List Str} {C : List PV → Rs} (h : ∀ vs, C vs = .bad) : FnOk Pr w K mg base (L2.CX Pr w) lev f fd ps (spF g C) where
  len := fun vs H Q E ⟨_, _, _, _, _, p⟩ => by rw [h] at p; exact p.elim
  run := fun A outer s H args us vs Q E _ _ _ _ ⟨_, _, _, _, _, p⟩ => by rw [h] at p; exact p.elim
/-- the whole program: every def, by the depth -/
theorem prog_ok {ds : List Df} (hK : g.K = K) (hl : ds.length = P.fds.length) (h0 : 0 < ds.length)
    (hF : ∀ (f : Nat) (D : Df), ds[f]? = some D → ∃ fd, L2.Fun K D.x D.qual D.st (g.fa f) fd ∧ FnScope D.N D.ps (defScope D.st) ∧ Binds K fd D.ps [])
    (hout : ∀ f, ds.length ≤ f → g.fa f = g.fa 0)
    (hb : ∀ (d f : Nat) (D : Df) (fe : Fd), ds[f]? = some D → P.fds[f]? = some fe → fe.n = D.N.length ∧ P.ks.getD f 0 = D.ps.length ∧ SSs (sgOf g mg P d D.N) (defScope D.st) 2 (defBody D.st) fe.body) :
    ∀ (d f : Nat) (D : Df), ds[f]? = some D → ∃ fd, L2.Fun K D.x D.qual D.st (g.fa f) fd ∧ Binds K fd D.ps [] ∧ FnOk Pr w K mg base (L2.CX Pr w) d (g.fa f) fd D.ps (spF g (callF P d f)) := by
  intro d
  induction d with
  | zero =>
    intro f D e
    obtain ⟨fd, F, _, B⟩ := hF f D e
    exact ⟨fd, F, B, fn_never fun _ => rfl⟩
  | succ d ih =>
    intro f D e
    obtain ⟨fd, F, Sc, B⟩ := hF f D e
    have hlt := (List.getElem?_eq_some_iff.mp e).1
    obtain ⟨fe, efe⟩ : ∃ fe, P.fds[f]? = some fe := ⟨_, List.getElem?_eq_getElem (by rw [← hl]; exact hlt)⟩
    obtain ⟨h1, h2, h3⟩ := hb d f D fe e efe
    refine ⟨fd, F, B, def_ok hK F Sc efe h1 h2 h3 fun A X e1 e2 e3 e4 e5 hr f2 => ?_⟩
    by_cases hlt2 : f2 < ds.length
    · obtain ⟨fd2, F2, B2, O2⟩ := ih f2 ds[f2] (List.getElem?_eq_getElem hlt2)
      exact ⟨d, fd2, _, by rw [e1, e2, e3, e4, e5]; exact O2, hr, by rw [e3]; exact F2.kp, by rw [e3]; exact B2⟩
    · obtain ⟨fd2, F2, B2, O2⟩ := ih 0 ds[0] (List.getElem?_eq_getElem h0)
      have hbad : ∀ vs, callF P d f2 vs = .bad := fun vs => by
        cases d with
        | zero => rfl
        | succ d =>
          simp only [callF]
          rw [List.getElem?_eq_none (by omega)]
      rw [hout f2 (by omega)]
      exact ⟨d, fd2, ds[0].ps, by rw [e1, e2, e3, e4, e5]; exact fn_never hbad, hr, by rw [e3]; exact F2.kp, by rw [e3]; exact B2⟩
end
end EV
set_option Elab.async false
set_option linter.all false
set_option maxRecDepth 100000
set_option maxHeartbeats 2000000
/-! EVx: the end: from the program's defs to the law. -/
namespace EV
open PySem PySem.Spec PyProof.Rows L2

theorem rep_ints {g : Gh} {F : Hp} : ∀ ns : List Int, RepVs g F (ns.map V.int) (ns.map PV.int)
  | [] => .nil
  | n :: r => .cons (.int n) (rep_ints r)
/-- the script, as a tree -/
def Scr (ns : List Int) (v : PV) : Prop := v = .lst (ns.map PV.int) ∨ v = .cdt [] (ns.map PV.int)
theorem law_end {l : PySem.W.OpenLaw} {n k f : Nat} {q : Program} {loose : List Str} {XP : (Str → Option Value) → Heap → Prop} {YP : World → Heap → Prop} {d : DefRec} {K : Params → PySem.W.Frag} {x : Str} (P : Pg)
    (hn : l.most = some n) (hn2 : n ≤ sizeLine) (hdf : d.params.defaults = []) (hr : Room k callerA) (hY : ∀ (w : World) (h : Heap), YP w h → (K w.params).In h)
    (F : ∀ (w : World) (mg : Str → Option Value) (fa : Addr) (h : Heap), (K w.params).In h → h.Ns mainGlobals mg → mg d.name = some (.ref fa) →
      ∃ (g : Gh) (fd : FuncData), g.K = K w.params ∧ (∀ (s : Shared) (u : Value), BindsTo s fd ⟨[u], []⟩ [(x, u)]) ∧
        ∀ base : Heap, (K w.params).In base → base.Ns mainGlobals mg → FnOk l.prog w (K w.params) mg base (L2.CX l.prog w) k fa fd [x] (spF g (callF P k f)))
    (hC : ∀ (ns : List Int) (v : PV), ns.length ≤ n → Scr ns v → callF P k f [v] = .ok .sh (.bl true)) :
    PySem.W.WalkO q loose XP YP l.row.toRowW d [] (fun f vs => PySem.call f vs) := by
  refine L2.walk_of (n := n) (x := x) (CX := fun w => L2.CX l.prog w) (sp := fun w vs H Q E => ∀ g : Gh, g.K = K w.params → spF g (callF P k f) vs H Q E) hn hn2 hdf hr hY (fun w mg fa h h1 h2 h3 => ?_) (fun w H a ns hl hO hS g hg => ?_) (fun w H s e s' ⟨_, _, _, _, _, _, _, _, _, _, _, _, z⟩ => z)
  · obtain ⟨g, fd, e, hb, hF⟩ := F w mg fa h h1 h2 h3
    exact ⟨fd, hb, fun base b1 b2 => (hF base b1 b2).imp fun vs H Q E z => z g e⟩
  · have fin : ∀ (F : Hp) (v : PV), PostE g (fun c d _ H => (fun (_ : Value) (_ : Option Addr) (_ : Hp) => False) c d H) [] F H (.ok .sh (.bl true)) (fun v _ => v = .bl true) := fun F v v F' H' _ _ r => by
      cases (show RepV g F' v (.bl true) from r)
      rfl
    rcases hS with h | h
    · refine ⟨fun b => if b = a then H b else none, [], [.lst (ns.map PV.int)], fun b u e => ?_, .cons (.lst ?_ (rep_ints ns)) .nil, ?_⟩
      · dsimp only at e
        by_cases hb : b = a
        · rw [if_pos hb] at e
          exact .inl e
        · rw [if_neg hb] at e
          cases e
      · rcases h with h | ⟨o, h⟩
        · exact .inl (by dsimp only; rw [if_pos rfl]; exact h)
        · exact .inr ⟨o, by dsimp only; rw [if_pos rfl]; exact h⟩
      · rw [hC ns _ hl (.inl rfl)]
        exact fin _ (.non)
    · refine ⟨fun b => none, [], [.cdt [] (ns.map PV.int)], fun b u e => (nomatch e), .cons (.ckl (by rw [hg]; exact h) (rep_ints ns)) .nil, ?_⟩
      rw [hC ns _ hl (.inr rfl)]
      exact fin _ (.non)
/-- what a global name of the module stands for -/
inductive GD where
  | fn (f : Nat) | cls (c : Nat) | no | str (s : List Nat) | int (i : Int) | tup (is : List Int)
def GDok (g : Gh) (mg : Str → Option Value) (x : Str) : GD → Prop
  | .fn f => mg x = some (.ref (g.fa f))
  | .cls c => mg x = some (.ref (g.ca c))
  | .no => mg x = none
  | .str s => ∃ t, mg x = some (.str ⟨s.toArray⟩ t)
  | .int i => ∃ t, mg x = some (.int i t)
  | .tup is => ∃ a, mg x = some (.ref a) ∧ KT g.K a (is.map V.int)
/-- the values are the numbers -/
def intsB : List Value → List Int → Bool
  | [], [] => true
  | .int i _ :: r, j :: s => i == j && intsB r s
  | _, _ => false
theorem vals_ints : ∀ (l : List Value) (is : List Int), intsB l is = true → Vals (is.map V.int) l
  | [], [], _ => .nil
  | [], _ :: _, h => by cases h
  | u :: l, [], h => by cases u <;> cases h
  | u :: l, j :: is, h => by
    cases u with
    | int i t =>
      simp only [intsB, Bool.and_eq_true, beq_iff_eq] at h
      obtain ⟨rfl, h⟩ := h
      exact .cons ⟨t, rfl⟩ (vals_ints l is h)
    | _ => cases h
section
variable {S : Sg} {sc : Scope} {q : Nat} {pos : Pos}
theorem SE.gstr {x : Str} (s : List Nat) (hg : GlS sc x = true) (hm : GDok S.g S.mg x (.str s)) (hl : s.length ≤ SL) (hd : (x == ("__debug__" : Str)) = false) : SE S sc q (.Name x pos) (.cst (.str s)) := fun xa W X C => by
  obtain ⟨t, hm⟩ := hm
  exact se_cst (v := .str ⟨s.toArray⟩) (pe_glob (glS C.sc hg) (by rw [C.mg]; exact hm) ⟨t, rfl⟩ hd) fun F => .str s hl
theorem SE.gint {x : Str} (i : Int) (hg : GlS sc x = true) (hm : GDok S.g S.mg x (.int i)) (hd : (x == ("__debug__" : Str)) = false) : SE S sc q (.Name x pos) (.cst (.int i)) := fun xa W X C => by
  obtain ⟨t, hm⟩ := hm
  exact se_cst (v := .int i) (pe_glob (glS C.sc hg) (by rw [C.mg]; exact hm) ⟨t, rfl⟩ hd) fun F => .int i
theorem SE.gtup {x : Str} (is : List Int) (hg : GlS sc x = true) (hm : GDok S.g S.mg x (.tup is)) (hd : (x == ("__debug__" : Str)) = false) : SE S sc q (.Name x pos) (.cst (.ctp (is.map PV.int))) := fun xa W X C => by
  obtain ⟨a, hm, hk⟩ := hm
  exact se_cst (v := .ref a) (pe_glob (glS C.sc hg) (by rw [C.mg]; exact hm) rfl hd) fun F => .ctp hk (rep_ints is)
end
end EV
set_option Elab.async false
set_option linter.all false
set_option maxRecDepth 100000
set_option maxHeartbeats 2000000
/-! EVy: the match statement. -/
namespace EV
open PySem PySem.Spec PyProof.Rows L2

/-- the patterns of a written sequence -/
inductive PIt (S : Sg) (sc : Scope) : List Pattern → List (Option (List Nat) × Option Nat) → Prop
  | nil : PIt S sc [] []
  | cap {n : Str} {pos : Pos} {ps : List Pattern} {is} (i : Nat) : S.N[i]? = some n → StoS S sc n = true → PIt S sc ps is → PIt S sc (.MatchAs none (some n) pos :: ps) ((none, some i) :: is)
  | any {pos : Pos} {ps : List Pattern} {is} : PIt S sc ps is → PIt S sc (.MatchAs none none pos :: ps) ((none, none) :: is)
  | val {j : Nat} {p pos : Pos} {s : Str} {ps : List Pattern} {is} (l : List Nat) : s = ⟨l.toArray⟩ → l.length ≤ SL → PIt S sc ps is → PIt S sc (.MatchValue (.Constant (.str s) j p) pos :: ps) ((some l, none) :: is)
/-- what a pattern binds -/
inductive Bnd (S : Sg) (sc : Scope) (F : Hp) : List (Str × Value) → Env → Env → Prop
  | nil {e : Env} : Bnd S sc F [] e e
  | cons {n : Str} {u : Value} {v : V} {x : PV} {bs : List (Str × Value)} {e e' : Env} (i : Nat) : S.N[i]? = some n → StoS S sc n = true → RelV v u → RepV S.g F v x → Bnd S sc F bs (e.set i (.sh x)) e' → Bnd S sc F ((n, u) :: bs) e e'
section
variable {S : Sg} {sc : Scope} {q : Nat} {xa : Option (Addr × Value × Option Addr)} {W : WX} {X : Cx} {F0 H0 F H : Hp} {pins : List (Addr × Obj)}
theorem bnd_asg (C : CxO S sc q xa W X) {E : Value → Shared → Prop} {Q : Unit → Shared → Prop} : ∀ {bs : List (Str × Value)} {e e' : Env} {σ : L2.St} {s : Shared}, Bnd S sc F bs e e' → Inv X pins σ H s → Rel S.g xa F0 H0 F σ H e →
    (∀ σ' s', Inv X pins σ' H s' → Rel S.g xa F0 H0 F σ' H e' → Q () s') → wpAny (model X.prog X.w) X.A (assignInOrder (bs.map fun (n, _) => bindName X.env n) (bs.map (·.2))) Q E s
  | [], _, _, _, s, .nil, I, R, h => wpAny_assignInOrder_none (h _ _ I R)
  | (n, u) :: bs, _, _, _, s, .cons i h1 h2 rv rx b, I, R, h => by
    obtain ⟨l1, l2⟩ := stoS C.sc C.fn h2
    refine wpAny_assignInOrder_more (wpAny_bindName (store_ok I (by rw [C.N]; exact C.nd) (by rw [C.N]; exact h1) l1 rv (fun s' I' => ?_) l2))
    exact bnd_asg C b I' (R.setSh i rx) h
theorem cmp_strs (C : CxO S sc q xa W X) {σ : L2.St} {s : Shared} {a b : List Nat} {t u : Tok} (f : FLe F H) (I : Inv X pins σ H s) (ha : a.length ≤ SL) (hb : b.length ≤ SL) {Q : Value → Shared → Prop}
    (h : ∀ F' H' s', Ext H H' → Fx F H F' H' → Inv X pins σ H' s' → Q (.bool (a == b)) s') : wpAny (model X.prog X.w) X.A (compareOp .Eq (.str ⟨a.toArray⟩ t) (.str ⟨b.toArray⟩ u)) Q X.xe s := by
  have hr := op_cmp (g := S.g) (X := X) (by have := C.un; omega) C.K .eq pins s σ H (.str ⟨a.toArray⟩) (.str ⟨b.toArray⟩) (.str ⟨a.toArray⟩ t) (.str ⟨b.toArray⟩ u) (fun v H' => v = .bl (a == b) ∧ ∃ F', Ext H H' ∧ Fx F H F' H') I ⟨t, rfl⟩ ⟨u, rfl⟩
    ⟨W, σ, F, .str a, .str b, f, .inl (.str a ha), .inl (.str b hb), ?_⟩
  · refine thn hr fun r s' ⟨v, H', I', rv, e1, F', e2, e3⟩ => ?_
    subst e1
    cases rv
    exact h F' H' s' e2 e3 I'
  · have e : cmpP .eq (.str a) (.str b) = some (a == b) := by simp [cmpP, plain, dep, eqv]
    rw [e]
    intro v F' H' e1 e2 vr
    exact ⟨vr.b.bl, F', e1, e2⟩
def MatR (S : Sg) (sc : Scope) (F' : Hp) (e : Env) (Q : Option (List (Str × Value)) → Shared → Prop) (s' : Shared) : Option (Env × List PV) → Prop
  | none => Q none s'
  | some (e', _) => ∀ bs, Bnd S sc F' bs e e' → Q (some bs) s'
/-- the items against the patterns -/
theorem each_ok (C : CxO S sc q xa W X) {ps : List Pattern} {is : List (Option (List Nat) × Option Nat)} (p : PIt S sc ps is) : ∀ {xs : List PV} {vs : List V} {us : List Value} {e : Env} {r : Option (Env × List PV)} {σ : L2.St} {s : Shared} {F H : Hp} {Q : Option (List (Str × Value)) → Shared → Prop},
    FLe F H → RepVs S.g F vs xs → Vals vs us → ps.length = xs.length → matS is xs e = some r → Inv X pins σ H s →
    (∀ F' H' s', Ext H H' → Fx F H F' H' → Inv X pins σ H' s' → MatR S sc F' e Q s' r) → wpAny (model X.prog X.w) X.A (matchEach ps X.env us) Q X.xe s := by
  induction p with
  | nil =>
    intro xs vs us e r σ s F H Q f rv ru hl hm I h
    cases rv with
    | nil =>
      simp only [matS, Option.some.injEq] at hm
      subst hm
      exact wpAny_matchEach_nil (h F H s (.refl H) (.refl f) I [] .nil)
    | cons _ _ => simp at hl
  | cap i h1 h2 p ih =>
    intro xs vs us e r σ s F H Q f rv ru hl hm I h
    cases rv with
    | nil => simp at hl
    | cons rv rr =>
      cases ru with
      | cons r1 r2 =>
        simp only [matS] at hm
        refine wpAny_matchEach_cons (wpAny_matchPattern_Capture ?_) rfl
        refine ih f rr r2 (by simpa using hl) hm I fun F' H' s' e1 e2 I' => ?_
        have h3 := h F' H' s' e1 e2 I'
        cases r with
        | none => exact h3
        | some r => exact fun bs b => h3 _ (.cons i h1 h2 r1 (rv.mono e2.ff) b)
  | any p ih =>
    intro xs vs us e r σ s F H Q f rv ru hl hm I h
    cases rv with
    | nil => simp at hl
    | cons rv rr =>
      cases ru with
      | cons r1 r2 =>
        simp only [matS] at hm
        refine wpAny_matchEach_cons (wpAny_matchPattern_Capture ?_) rfl
        refine ih f rr r2 (by simpa using hl) hm I fun F' H' s' e1 e2 I' => ?_
        have h3 := h F' H' s' e1 e2 I'
        cases r with
        | none => exact h3
        | some r => exact fun bs b => h3 _ b
  | val l hs hsl p ih =>
    intro xs vs us e r σ s F H Q f rv ru hl hm I h
    subst hs
    cases rv with
    | nil => simp at hl
    | cons rv rr =>
      cases ru with
      | cons r1 r2 =>
        rename_i x _ _ _
        cases x with
        | str t =>
          obtain ⟨rfl, ht⟩ := RepB.str (.inl rv : RepB S.g F H _ _)
          obtain ⟨tk, rfl⟩ := r1
          simp only [matS, beq_iff_eq] at hm
          refine wpAny_matchEach_cons (wpAny_matchPattern_Value (Calls.Constant_str ?_)) rfl
          refine cmp_strs C f (I.tok _) ht hsl fun F1 H1 s1 e1 f1 I1 => ?_
          show wpAny _ _ (truthy (.bool (t == l))) _ _ _
          refine wpAny_of_eq (a := (t == l)) rfl ?_
          cases et : t == l with
          | true =>
            have e2 : t = l := by simpa using et
            rw [if_pos e2.symm] at hm
            show wpAny _ _ (matchEach _ X.env _) _ _ _
            refine ih f1.fh (rr.mono f1.ff) r2 (by simpa using hl) hm I1 fun F' H' s' e3 f2 I' => ?_
            have h3 := h F' H' s' (e1.trans e3) (Fx.trans e1 f1 f2) I'
            cases r with
            | none => exact h3
            | some r => exact fun bs b => h3 _ b
          | false =>
            have e2 : ¬ l = t := fun z => by rw [z] at et; simp at et
            rw [if_neg e2] at hm
            cases hm
            exact h F1 H1 s1 e1 f1 I1
        | _ => simp [matS] at hm
/-- the cases of a match -/
def SCs (S : Sg) (sc : Scope) (q : Nat) (cases : List MatchCase) (cs : Cs) : Prop := ∀ xa W X, CxO S sc q xa W X → ∀ (pins : List (Addr × Obj)) (s : Shared) (σ : L2.St) (H : Hp) (D : Ends) (first : Bool) (v : V) (u : Value) (x : PV) (F0 H0 F : Hp) (env : Env), Inv X pins σ H s → RelV v u →
  Rel S.g xa F0 H0 F σ H env → RepV S.g F v x → PostF S.g xa W F0 H0 F (execM S.EC x cs env) D → wpAny (model X.prog X.w) X.A (matchCases cases X.env u first) (L2.SP X pins D) X.xe s
theorem SCs.nil : SCs S sc q [] .nil := fun xa W X C pins s σ H D first v u x F0 H0 F env I rv R rx p => wpAny_matchCases_nil ⟨σ, H, I, p σ F H (.refl F) R⟩
theorem SCs.any {pos : Pos} {body : List Stmt} {rest : List MatchCase} {b : Ss} {cs : Cs} (hb : SSs S sc q body b) : SCs S sc q (⟨.MatchAs none none pos, none, body⟩ :: rest) (.cons .any b cs) := fun xa W X C pins s σ H D first v u x F0 H0 F env I rv R rx p => by
  simp only [execM, matP] at p
  refine wpAny_matchCases_cons (wpAny_matchPattern_Capture ?_)
  refine bnd_asg C .nil I R fun σ' s' I' R' => ?_
  exact (hb xa W X C).run pins s' σ' H D I' ⟨F0, H0, F, env, R', p⟩
theorem SCs.str {j : Nat} {p2 pos : Pos} {t : Str} {body : List Stmt} {rest : List MatchCase} {b : Ss} {cs : Cs} (l : List Nat) (ht : t = ⟨l.toArray⟩) (hl : l.length ≤ SL) (hb : SSs S sc q body b) (hr : SCs S sc q rest cs) :
    SCs S sc q (⟨.MatchValue (.Constant (.str t) j p2) pos, none, body⟩ :: rest) (.cons (.str l) b cs) := fun xa W X C pins s σ H D first v u x F0 H0 F env I rv R rx p => by
  subst ht
  simp only [execM, matP] at p
  cases x with
  | str a =>
    obtain ⟨rfl, ha⟩ := RepB.str (.inl rx : RepB S.g F H _ _)
    obtain ⟨tk, rfl⟩ := rv
    refine wpAny_matchCases_cons (wpAny_matchPattern_Value (Calls.Constant_str ?_))
    refine cmp_strs C R.fx.fh (I.tok _) ha hl fun F1 H1 s1 e1 f1 I1 => ?_
    show wpAny _ _ (truthy (.bool (a == l))) _ _ _
    refine wpAny_of_eq (a := (a == l)) rfl ?_
    have ets : (a == l) = (l == a) := by
      rw [Bool.eq_iff_iff, beq_iff_eq, beq_iff_eq]
      exact eq_comm
    have R1 := R.mono e1 f1
    cases et : a == l with
    | true =>
      dsimp only at p
      rw [← ets, et] at p
      refine bnd_asg C .nil I1 R1 fun σ' s' I' R' => ?_
      exact (hb xa W X C).run pins s' σ' H1 D I' ⟨F0, H0, F1, env, R', PostF.mono f1.ff p⟩
    | false =>
      dsimp only at p
      rw [← ets, et] at p
      exact hr xa W X C pins s1 σ H1 D false (.str ⟨a.toArray⟩) _ (.str a) F0 H0 F1 env I1 ⟨tk, rfl⟩ R1 (.str a ha) (PostF.mono f1.ff p)
  | _ => exact p.elim
theorem SCs.seq {ps : List Pattern} {is : List (Option (List Nat) × Option Nat)} {pos : Pos} {body : List Stmt} {rest : List MatchCase} {b : Ss} {cs : Cs} (hq : 1 ≤ q) (hp : PIt S sc ps is) (hlen : ps.length = is.length) (hstar : ps.findIdx? (·.isStar) = none)
    (hwild : (ps.all fun p => p.isWildcard || (p.isStar && p.names.isEmpty)) = false) (hb : SSs S sc q body b) (hr : SCs S sc q rest cs) :
    SCs S sc q (⟨.MatchSequence ps pos, none, body⟩ :: rest) (.cons (.seq is none) b cs) := fun xa W X C pins s σ H D first v u x F0 H0 F env I rv R rx p => by
  cases x with
  | lst xs =>
    cases rx with
    | lst ha rs =>
      rename_i a vs
      cases rv
      have hq2 : SqL X.K H a vs := sqL_of (rd_mono R.fx.fh ha)
      obtain ⟨its, rv2, pl, hz⟩ := I.list hq2
      have hl := rv2.length
      have hfit : ((its.toArray.size : Nat) : Int) < 2 ^ 63 := by
        rw [List.size_toArray, ← hl]
        have : vs.length ≤ 16777216 := by rw [sizeLine_eq] at hz; exact hz
        omega
      simp only [execM, matP, lstOf] at p
      refine wpAny_matchCases_cons ?_
      by_cases hn : xs.length = is.length
      · rw [if_pos hn] at p
        have hsz : its.toArray.size = ps.length := by rw [List.size_toArray, ← hl, rs.length, hn, hlen]
        refine matchSeq_list_hit pl.isList hfit hsz ?_ hstar hwild
        rw [← hsz]
        refine PySem.W.kun_itemsOf (s := { s with toks := s.toks + 1 + 1 }) (I.ok.hd (C.cl hq)) pl.isList fun h' hx => ?_
        have I1 : Inv X pins σ H { s with heap := h', toks := s.toks + 1 + 1 } := I.kept (t' := s.toks + 1 + 1) fun b o e => hx b o (Nat.ne_of_lt (Heap.lt_size e)) e
        cases em : matS is xs env with
        | none => rw [em] at p; exact p.elim
        | some r =>
          rw [em] at p
          refine each_ok C hp R.fx.fh rs (us := its.toArray.toList) (by simpa using rv2) (by rw [hlen, hn]) em I1 fun F' H' s' e1 f1 I' => ?_
          have R1 := R.mono e1 f1
          cases r with
          | none =>
            exact hr xa W X C pins s' σ H' D false (.ref a) _ (.lst xs) F0 H0 F' env I' rfl R1 (.lst (rd_mono f1.ff ha) (rs.mono f1.ff)) (PostF.mono f1.ff p)
          | some r =>
            obtain ⟨e', rest'⟩ := r
            intro bs hbd
            refine bnd_asg C hbd I' R1 fun σ' s2 I2 R2 => ?_
            exact (hb xa W X C).run pins s2 σ' H' D I2 ⟨F0, H0, F', e', R2, PostF.mono f1.ff p⟩
      · rw [if_neg hn] at p
        refine matchSeq_list_miss pl.isList hfit (by rw [List.size_toArray, ← hl, rs.length, hlen]; exact hn) ?_ hstar hwild
        exact hr xa W X C pins _ σ H D false (.ref a) _ (.lst xs) F0 H0 F env (I.tok _) rfl R (.lst ha rs) p
  | _ => simp only [execM, matP, lstOf] at p; exact p.elim
theorem SS.mat {e : Expr} {ia : IR} {cases : List MatchCase} {cs : Cs} {pos : Pos} (he : SE S sc q e ia) (hc : SCs S sc q cases cs) : SS S sc q (.Match e cases pos) (.mat ia cs) := fun xa W X C => by
  refine ⟨fun pins s σ H D I h => ?_⟩
  obtain ⟨F0, H0, F, env, R, p⟩ := h
  simp only [exec] at p
  refine wpAny_Match (thn ((he xa W X C).run pins s σ H (fun v H1 => ∃ F1 x, RepV S.g F1 v x ∧ Rel S.g xa F0 H0 F1 σ H1 env ∧ PostF S.g xa W F0 H0 F1 (execM S.EC x cs env) D) I ⟨F0, H0, F, env, R, fk_post R p fun m y v F1 H1 e1 hm ex fx vr p1 => ?_⟩) fun u s1 ⟨v, H1, I1, rv, F1, x, rx, R1, p1⟩ => ?_)
  · obtain ⟨F2, fx2, ff2, r2⟩ := VRep.keep hm fx vr
    exact ⟨F2, y, r2, R.mono ex fx2, PostF.mono ff2 p1⟩
  · exact hc xa W X C pins s1 σ H1 D true v u x F0 H0 F1 env I1 rv R1 rx p1
end
end EV
set_option Elab.async false
set_option linter.all false
set_option maxRecDepth 100000
set_option maxHeartbeats 2000000
/-! EVz: two stores into one list; a text's first sign replaced; other rare forms. -/
namespace EV
open PySem PySem.Spec PyProof.Rows L2
section
variable {S : Sg} {sc : Scope} {q : Nat} {a b c d : Expr} {ia ib ic id : IR} {pos : Pos}
theorem sub_red {xa : Option (Addr × Value × Option Addr)} {W : WX} {F0 H0 F H : Hp} {σ : L2.St} {env : Env} {i : Nat} {c0 y : PV} {vu : V} {ea : Env → Rs} {K : PV → Fl} {D : Ends} {Q : L2.St → Hp → Prop} (R : Rel S.g xa F0 H0 F σ H env) (hi : env[i]? = some (.ow c0)) (ry : RepB S.g F H vu y)
    (p : PostF S.g xa W F0 H0 F ((ea env).fk env fun _ k => ownK (putP c0 k y) K) D)
    (h : ∀ c1 F' H', FLe F F' → Rel S.g xa F0 H0 F' σ H' (env.set i (.ow c1)) → PostF S.g xa W F0 H0 F' (K c1) D → Q σ H') (ryF : RepV S.g F vu y) : gSub (tVar i) (rd S.g xa W ea) rSetO vu σ H Q := by
  have hs := R.sl i
  rw [hi] at hs
  obtain ⟨pp, h1, _⟩ := hs
  refine ⟨.ref pp, h1, ?_⟩
  show rd S.g xa W ea σ H _
  refine ⟨F0, H0, F, env, R, fk_post R p fun m k v F1 H1 e1 hm ex fx vr p1 => ?_⟩
  have R1 := R.mono ex fx
  cases en : putP c0 k y with
  | none => rw [en] at p1; exact p1.elim
  | some c1 =>
    rw [en] at p1
    obtain ⟨p', h2, h3⟩ := put_red R1 hi en vr.b (ryF.mono fx.ff) (fun H' R' => h c1 F1 H' fx.ff R' p1)
    rw [h1] at h2
    cases h2
    exact h3
theorem SS.swp {x : Str} {p1 p2 p3 p4 pt pt2 : Pos} {k1 k2} (i : Nat) (hq : 1 ≤ q) (hN : S.N[i]? = some x) (hv : VisS sc x = true) (hd : (x == ("__debug__" : Str) || x == ("__classdict__" : Str)) = false) (hpa : plE a = true) (hpb : plE b = true)
    (hw : ∀ env : PySem.Env, env.scope = sc → swappedStores [.Tuple [.Subscript (.Name x p1) a p2, .Subscript (.Name x p3) b p4] k1 pt] (.Tuple [c, d] k2 pt2) env = pure none)
    (ha : SE S sc q a ia) (hb : SE S sc q b ib) (h : SA S sc q [c, d] (.cons ic (.cons id .nil))) :
    SS S sc q (.Assign [.Tuple [.Subscript (.Name x p1) a p2, .Subscript (.Name x p3) b p4] k1 pt] (.Tuple [c, d] k2 pt2) pos) (.swp i ia ib ic id) := fun xa W X C => by
  simp only [Bool.or_eq_false_iff] at hd
  have vx := visS hv
  rw [← C.sc] at vx
  have un := C.un
  have hn : X.N[i]? = some x := by rw [C.N]; exact hN
  have ga : ∀ v, assign (.Subscript (.Name x p1) a p2) X.env v = (do
      let ov ← holding [v] (eval (.Name x p1) X.env)
      let iv ← holding [v, ov] (eval a X.env)
      standAt p2
      holding [v, ov, iv] (setItem ov iv v)
      release [v, ov, iv] []) := by intro v; cases a <;> first | rfl | (simp [plE] at hpa)
  have gb : ∀ v, assign (.Subscript (.Name x p3) b p4) X.env v = (do
      let ov ← holding [v] (eval (.Name x p3) X.env)
      let iv ← holding [v, ov] (eval b X.env)
      standAt p4
      holding [v, ov, iv] (setItem ov iv v)
      release [v, ov, iv] []) := by intro v; cases b <;> first | rfl | (simp [plE] at hpb)
  refine (ps_asg (pe_tup (h xa W X C)) (pg_tup (n := 2) (C.cl hq) (pgs_cons (pg_sub (pe_var (i := i) hn vx hd.1 hd.2) (ha xa W X C) (set_o (by omega)) ga) (pgs_cons (pg_sub (pe_var (i := i) hn vx hd.1 hd.2) (hb xa W X C) (set_o (by omega)) gb) pgs_nil rfl) rfl) rfl rfl) rfl (hw X.env C.sc) rfl).imp
    fun D σ H ⟨F0, H0, F, env, R, p⟩ => ?_
  simp only [exec] at p
  cases eo : owOf env[i]? with
  | none => rw [eo] at p; exact p.elim
  | some c0 =>
    rw [eo] at p
    simp only [ownK] at p
    have ei := owOf_some eo
    show rdL S.g xa W _ σ H _
    refine ⟨F0, H0, F, env, R, flL_post R p fun n xs vs F1 H1 e1 ex fx lr p1 => ?_⟩
    unfold swpV at p1
    split at p1
    · cases lr with
      | cons r1 rr =>
        cases rr with
        | cons r2 rr =>
          cases rr
          refine ⟨by show 2 ≤ sizeLine; decide, fun pn hpn => ⟨pn, _, rfl, .inl (.inl upd_same), rfl, _, _, rfl, ?_⟩⟩
          have R1 : ∀ o, Rel S.g xa F0 H0 F1 σ (upd H1 pn o) env := fun o => (R.mono ex fx).mono (.new hpn) (.lay fx.fh hpn)
          refine sub_red (R1 _) ei (.inl r1) p1 (fun c1 F2 H2 f2 R2 p2 => ⟨_, _, rfl, ?_⟩) r1
          have hl : i < env.length := (List.getElem?_eq_some_iff.mp ei).1
          refine sub_red (c0 := c1) R2 (by rw [List.getElem?_set_self hl]) (.inl (r2.mono f2)) (K := fun c2 => .nx ((env.set i (.ow c1)).set i (.ow c2))) (D := D) ?_ (fun c2 F3 H3 f3 R3 p3 => ⟨rfl, ?_⟩) (r2.mono f2)
          · have e : ∀ o, owS (env.set i (.ow c1)) i o = ownK o fun c2 => .nx ((env.set i (.ow c1)).set i (.ow c2)) := fun o => by cases o <;> rfl
            simp only [e] at p2
            exact p2
          · exact p3 σ F3 H3 (.refl _) R3
    · exact p1.elim
theorem SE.non {j : Nat} : SE S sc q (.Constant .none j pos) (.cst .non) := SE.cst (fun X => pe_non) fun g F => .non
theorem SE.bl (v : Bool) {j : Nat} : SE S sc q (.Constant (.bool v) j pos) (.cst (.bl v)) := SE.cst (fun X => pe_bl) fun g F => .bl v
theorem SE.one {o : BoolOp} (h : SE S sc q a ia) : SE S sc q (.BoolOp o [a] pos) ia := fun xa W X C => pe_one (h xa W X C)
theorem SW.and1 (h : ST S sc q a ia) : SW S sc q (.BoolOp .And [a] pos) ia := fun xa W X C => pw_and1 (h xa W X C)
theorem SW.or1 (h : ST S sc q a ia) : SW S sc q (.BoolOp .Or [a] pos) ia := fun xa W X C => pw_or1 (h xa W X C)
theorem ST.w (h : SW S sc q a ia) : ST S sc q a ia := fun xa W X C => (h xa W X C).pt
theorem SE.chn (o o' : CO) (hm : lastMarks [o.op, o'.op] [b, c] = false) (ha : SE S sc q a ia) (hb : SE S sc q b ib) (hc : SE S sc q c ic) : SE S sc q (.Compare a [o.op, o'.op] [b, c] pos) (.chn o o' ia ib ic) := fun xa W X C => by
  have un := C.un
  exact (pe_chain (op_cmp (g := S.g) (by omega) C.K o) (op_cmp (g := S.g) (by omega) C.K o') (ha xa W X C) (hb xa W X C) (hc xa W X C) hm).imp fun σ H Q h => chn_red (W := W) h
theorem ST.chn (o o' : CO) (hm : lastMarks [o.op, o'.op] [b, c] = false) (ha : SE S sc q a ia) (hb : SE S sc q b ib) (hc : SE S sc q c ic) : ST S sc q (.Compare a [o.op, o'.op] [b, c] pos) (.chn o o' ia ib ic) := fun xa W X C => by
  have un := C.un
  exact st_chn (pt_chain (op_cmp (g := S.g) (by omega) C.K o) (op_cmp (g := S.g) (by omega) C.K o') (ha xa W X C) (hb xa W X C) (hc xa W X C) hm)
/-- two readings of one expression, by what a slot holds -/
theorem SE.alt (i : Nat) (ha : SE S sc q a ia) (hb : SE S sc q a ib) : SE S sc q a (.altZ i ia ib) := fun xa W X C => ⟨fun pins s σ H Q I ⟨F0, H0, F, env, R, p⟩ => by
  simp only [ev] at p
  cases e : isZ env[i]? with
  | true => rw [e] at p; exact (ha xa W X C).run pins s σ H Q I ⟨F0, H0, F, env, R, p⟩
  | false => rw [e] at p; exact (hb xa W X C).run pins s σ H Q I ⟨F0, H0, F, env, R, p⟩⟩
/-- a comprehension under a name that is not exchanged -/
theorem sw_false {elt : Expr} {gs : List Comprehension} {scope : Scope} {p py : Pos} {y : Str} {l : Nat} {sc : Scope} (h : (match sc.names.lookup y with | some .local => false | _ => true) = true ∨ (py.line == p.line) = false) :
    ∀ env : PySem.Env, env.scope = sc → swapsWith (.ListComp elt gs scope p) (some (.Name y py)) l env = pure false := fun env he => by
  have hk : env.kindOf y = sc.names.lookup y := by rw [← he]; rfl
  have hp : (Expr.ListComp elt gs scope p).pos = p := rfl
  unfold swapsWith
  rcases h with h | h
  · have e : (env.kindOf y == some .local) = false := by
      rw [hk]
      cases e2 : sc.names.lookup y with
      | none => rfl
      | some k => rw [e2] at h; cases k <;> first | rfl | (cases h)
    simp only [e, Bool.and_false, Bool.false_and]
  · simp only [hp, h, Bool.and_false, Bool.false_and]
theorem swp_sw {o1 i1 o2 i2 : Expr} {p1 p2 pt pt2 : Pos} {k k2} {env : PySem.Env} : swappedStores [.Tuple [.Subscript o1 i1 p1, .Subscript o2 i2 p2] k pt] (.Tuple [c, d] k2 pt2) env = pure none := by
  unfold swappedStores
  dsimp only
  split
  · rfl
  · split
    · rfl
    · split
      · rfl
      · rename_i h
        exact (False.elim (by simp at h))
end
/-! ### one token out: the first sign of a text replaced -/
namespace R1
open Builtin Builtin.Str
theorem gives_rep1 (x y z : Str) (t u v w : Tok) (h0 : (u == 0 || v == 0) = false) (huv : (u == v) = false) (hyz : (y == z) = false) (hl : tooLong (x.length + (occurrences x y 0 x.length 1).length * z.length) = false) :
    Gives («str.replace» ⟨[.str x t, .str y u, .str z v, .int 1 w], []⟩) (if ((occurrences x y 0 x.length 1).isEmpty || (y.length == 0 && z.length == 0)) = true then .val (.str x t) else .str (glued z (partsBetween x (occurrences x y 0 x.length 1) y.length))) := by
  show Gives (if ((occurrences x y 0 x.length 1).isEmpty || (y.length == 0 && z.length == 0)) = true then (do rule "str.replace.nothing"; ret (.str x t)) else
      (do let same ← isSame (.str y u) (.str z v)
          if same = true then (do rule "str.replace.old-is-new"; ret (.str x t)) else
          if tooLong (x.length + (occurrences x y 0 x.length 1).length * z.length) = true then unsupported "str.replace:memory" else
          retStr (glued z (partsBetween x (occurrences x y 0 x.length 1) y.length)))) _
  cases hc : ((occurrences x y 0 x.length 1).isEmpty || (y.length == 0 && z.length == 0))
  · rw [isSame_str_other y z u v h0 huv hyz, hl]
    exact .of_eq rfl
  · exact .rule (.of_eq rfl)
theorem call_rep1 {prog : Program} {wl : World} {A : Around} {E : Value → Shared → Prop} {s : Shared} {x y z : Str} {t u v w : Tok} {Q : Value → Shared → Prop} (hu : u ≠ 0) (hv : v ≠ 0) (huv : u ≠ v) (hyz : (y == z) = false) (hl : x.length + z.length ≤ 16000000)
    (hr : (rep1T x y z).length ≤ 16000000) (hq : ∀ t' k, Q (.str (rep1T x y z) t') { s with toks := k }) : wpAny (model prog wl) A (call (.builtin "str.replace") [.str x t, .str y u, .str z v, .int 1 w]) Q E s := by
  have hl2 : tooLong (x.length + (occurrences x y 0 x.length 1).length * z.length) = false := by
    have h1 := StrLaws.occ_length_le x y 0 x.length 1
    have h2 : (occurrences x y 0 x.length 1).length * z.length ≤ 1 * z.length := Nat.mul_le_mul_right _ h1
    unfold tooLong sizeLine
    exact decide_eq_false (by omega)
  refine call_gives F.slot_str_replace (typeIs_str _ _ _) F.entry_str_replace (F.args_str_replace_4 _ _ _ _) (gives_rep1 x y z t u v w (by simp [hu, hv]) (by simp [huv]) hyz hl2) ?_
  unfold rep1T at hq hr
  cases hc : ((occurrences x y 0 x.length 1).isEmpty || (y.length == 0 && z.length == 0))
  · rw [hc] at hq hr
    simp only [Bool.false_eq_true, if_false] at hq hr ⊢
    exact ⟨Nat.le_trans hr (by unfold sizeLine; decide), hq _ _⟩
  · rw [hc] at hq
    simp only [if_true] at hq ⊢
    exact hq t s.toks
end R1
section
variable {S : Sg} {sc : Scope} {q : Nat} {a b c d : Expr} {ia ib ic id : IR} {pos : Pos}
def SET (S : Sg) (sc : Scope) (q : Nat) (e : Expr) (ir : IR) : Prop := ∀ xa W X, CxO S sc q xa W X → PET X e (rd S.g xa W fun env => ev S.EC false ir env)
def SAT (S : Sg) (sc : Scope) (q : Nat) (es : List Expr) (irs : IRs) : Prop := ∀ xa W X, CxO S sc q xa W X → PAT X es (rdL S.g xa W fun env => evs S.EC irs env)
/-- an expression behind which a token is out -/
def SB (S : Sg) (sc : Scope) (q : Nat) (e : Expr) (ir : IR) : Prop := ∀ xa W X, CxO S sc q xa W X → ∀ (pins : List (Addr × Obj)) (s : Shared) (σ : L2.St) (H : Hp) (Q : VK), Inv X pins σ H s → rd S.g xa W (fun env => ev S.EC false ir env) σ H Q →
  wpAny (model X.prog X.w) X.A (eval e X.env) (fun u s' => 1 ≤ s'.toks ∧ EP X pins σ Q u s') X.xe s
theorem SET.of (h : SE S sc q a ia) : SET S sc q a ia := fun xa W X C pins s σ H Q _ I p => (h xa W X C).run pins s σ H Q I p
theorem SAT.nil : SAT S sc q [] .nil := fun xa W X C pos pins s σ H Q _ I p => (sa_nil (X := X)).run pos pins s σ H Q I p
theorem SAT.cons {es : List Expr} {ies : IRs} (hp : plE a = true) (ha : SET S sc q a ia) (hr : SAT S sc q es ies) : SAT S sc q (a :: es) (.cons ia ies) := fun xa W X C pos pins s σ H Q h0 I p =>
  pat_cons (ha xa W X C) (hr xa W X C) (star_pl hp) pos pins s σ H Q h0 I (cons_red p)
theorem SA.bump {es : List Expr} {ies : IRs} (hp : plE a = true) (ha : SB S sc q a ia) (hr : SAT S sc q es ies) : SA S sc q (a :: es) (.cons ia ies) := fun xa W X C => by
  refine ⟨fun pos pins s σ H Q I p => ?_⟩
  rw [star_pl hp]
  show wpAny _ _ (spliced ((false, eval a X.env) :: backTo pos (starEach es X.env))) _ _ s
  have h := cons_red (g := S.g) (xa := xa) (W := W) (ma := fun env => ev S.EC false ia env) (ml := fun env => evs S.EC ies env) p
  refine Calls.spliced_cons (thn (ha xa W X C pins s σ H _ I h) fun u s1 ⟨hk, x, H1, I1, r1, q1⟩ => ?_)
  exact thn (hr xa W X C pos pins s1 σ H1 _ hk I1 q1) fun us s2 ⟨xs, H2, I2, r2, q2⟩ => ⟨x :: xs, H2, I2, .cons r1 r2, q2⟩
theorem SB.str {t : Str} {j : Nat} (l : List Nat) (h : t = ⟨l.toArray⟩) (hl : l.length ≤ SL) : SB S sc q (.Constant (.str t) j pos) (.cst (.str l)) := fun xa W X C pins s σ H Q I ⟨F0, H0, F, env, R, p⟩ => by
  subst h
  refine Calls.Constant_str ⟨by show 1 ≤ s.toks + 1; omega, .str ⟨l.toArray⟩, H, I.tok _, ⟨_, rfl⟩, ?_⟩
  exact p _ F H (.refl H) (.refl R.fx.fh) (.str l hl)
theorem SB.bin (o : BO) (ha : SE S sc q a ia) (hb : SB S sc q b ib) : SB S sc q (.BinOp a o.op b pos) (.bin o ia ib) := fun xa W X C pins s σ H Q I ⟨F0, H0, F, env, R, p⟩ => by
  have un := C.un
  have opr := op_bin (g := S.g) (X := X) (by omega) C.K o
  refine wpAny_BinOp ?_
  simp only [ev, fin] at p
  have hA : rd S.g xa W (fun env => ev S.EC false ia env) σ H fun v H1 => rd S.g xa W (fun env => ev S.EC false ib env) σ H1 fun u H2 => rBin S.g o v u H2 Q := by
    refine rd_bind R p fun m x v F1 H1 e1 ex fx vr p1 => rd_bind (R.mono ex fx) p1 fun m2 y w F2 H2 e2 ex2 fx2 wr p2 => ?_
    exact ⟨W, σ, F2, x, y, fx2.fh, vr.b.mono ex2 fx2.ff, wr.b, p2⟩
  refine thn ((ha xa W X C).run pins s σ H _ I hA) fun v s1 ⟨x, H1, I1, r1, q1⟩ => ?_
  refine thn (hb xa W X C pins s1 σ H1 _ I1 q1) fun u s2 ⟨hk, y, H2, I2, r2, q2⟩ => ?_
  exact wpAny_mono (PySem.wpAny_toks (opr pins s2 σ H2 x y v u Q I2 r1 r2 q2)) (fun w s3 ⟨hk2, h3⟩ => ⟨Nat.le_trans hk hk2, h3⟩) fun _ _ z => z.2
theorem SET.rep1 {o : Expr} {io : IR} {apos p1 p2 p3 : Pos} {j1 j2 j3 : Nat} {y z : Str} (ly lz : List Nat) (hy : y = ⟨ly.toArray⟩) (hz : z = ⟨lz.toArray⟩) (hly : ly.length ≤ SL) (hlz : lz.length ≤ SL) (hne : ly ≠ lz) (hb : noSup o = true) (hline : (apos.endLine == pos.line) = true) (ho : SE S sc q o io) :
    SET S sc q (.Call (.Attribute o "replace" apos) [.Constant (.str y) j1 p1, .Constant (.str z) j2 p2, .Constant (.int 1) j3 p3] [] pos) (.mth .replace1 io (.cons (.cst (.str ly)) (.cons (.cst (.str lz)) (.cons (.cst (.int 1)) .nil)))) := fun xa W X C pins s σ H Q h0 I ⟨F0, H0, F, env, R, p⟩ => by
  subst hy hz
  simp only [ev, fin] at p
  have hA : rd S.g xa W (fun env => ev S.EC false io env) σ H fun v H1 => ∃ t : List Nat, v = .str ⟨t.toArray⟩ ∧ t.length + lz.length ≤ SL ∧ (EV.rep1 t ly lz).length ≤ SL ∧ Q (.str ⟨(EV.rep1 t ly lz).toArray⟩) H1 := by
    refine rd_bind R p fun m x v F1 H1 e1 ex fx vr p1 => ?_
    cases x with
    | str t =>
      obtain ⟨rfl, _⟩ := vr.b.str
      simp only [strK, evs, ev, fin, Rs.cons, Rl.bind, mthP] at p1
      split at p1
      · rename_i hc
        exact ⟨t, rfl, hc.2.1, hc.2.2, p1 _ F1 H1 (.refl H1) (.refl fx.fh) (.str _ hc.2.2)⟩
      · exact p1.elim
    | _ => exact p1.elim
  have hst : starEach [.Constant (.str (⟨ly.toArray⟩ : Str)) j1 p1, .Constant (.str (⟨lz.toArray⟩ : Str)) j2 p2, .Constant (.int 1) j3 p3] X.env = [(false, eval (.Constant (.str (⟨ly.toArray⟩ : Str)) j1 p1) X.env), (false, eval (.Constant (.str (⟨lz.toArray⟩ : Str)) j2 p2) X.env), (false, eval (.Constant (.int 1) j3 p3) X.env)] := rfl
  refine wpAny_Call_method_lateS (base_of hb) (by rw [hst]; rfl) hline (wpAny_mono (PySem.wpAny_toks ((ho xa W X C).run pins s σ H _ I hA)) (fun v s1 h1 => ?_) fun _ _ z => z.2)
  obtain ⟨hk, v', H1, I1, r1, t, e1, hl1, hl2, q1⟩ := h1
  subst e1
  obtain ⟨tx, e2⟩ := r1
  subst e2
  rw [hst]
  refine ⟨"str", _, PySem.F.plainAttrs_str, PySem.F.slot_str_replace, PySem.F.type_str_replace, typeIs_str _ _ _, (fun _ e => nomatch e), Calls.callWith_builtin rfl (Calls.evalArgs_plain (Calls.spliced_cons ?_))⟩
  refine Calls.Constant_str (k := j1) (pos := p1) ?_
  show wpAny _ _ (spliced [(false, eval (.Constant (.str (⟨lz.toArray⟩ : Str)) j2 p2) X.env), (false, eval (.Constant (.int 1) j3 p3) X.env)]) _ _ _
  refine Calls.spliced_cons (Calls.Constant_str ?_)
  show wpAny _ _ (spliced [(false, eval (.Constant (.int 1) j3 p3) X.env)]) _ _ _
  refine Calls.spliced_cons (wpAny_Constant_int (Calls.spliced_nil ?_))
  have hyz : ((⟨ly.toArray⟩ : Str) == ⟨lz.toArray⟩) = false := by
    rw [Bool.eq_false_iff]
    intro e
    have e := eq_of_beq e
    apply hne
    have e3 := congrArg (fun s : Str => s.cps.toList) e
    simpa using e3
  refine R1.call_rep1 (show s1.toks ≠ 0 by omega) (show s1.toks + 1 ≠ 0 by omega) (show s1.toks ≠ s1.toks + 1 by omega) hyz (by rw [str_len, str_len]; exact hl1) ?_ fun t' k => ⟨.str (rep1T ⟨t.toArray⟩ ⟨ly.toArray⟩ ⟨lz.toArray⟩), H1, I1.tok k, ⟨t', rfl⟩, ?_⟩
  · have : (rep1T ⟨t.toArray⟩ ⟨ly.toArray⟩ ⟨lz.toArray⟩).length = (EV.rep1 t ly lz).length := by
      unfold EV.rep1
      show _ = (rep1T ⟨t.toArray⟩ ⟨ly.toArray⟩ ⟨lz.toArray⟩).cps.toList.length
      rw [Array.length_toList]
      rfl
    rw [this]
    exact hl2
  · have e : (⟨(EV.rep1 t ly lz).toArray⟩ : Str) = rep1T ⟨t.toArray⟩ ⟨ly.toArray⟩ ⟨lz.toArray⟩ := by
      unfold EV.rep1
      simp
    rw [← e]
    exact q1
end
/-! ### classes of errors, by what the head says of them -/
theorem kit_of {K : PySem.W.Frag} {D C : Addr} {b : Bool} (hd : PySem.W.hasDictIn K C = true) (ht : PySem.W.typeIn K (.ref C) = some (.type "type")) (sc : PySem.W.subIn K (.ref C) (.ref C) = some true) (s : PySem.W.subIn K (.ref D) (.ref C) = some b) :
    PySem.W.kitOne K (.ref D) (.ref C) = some b := by
  unfold PySem.W.kitOne
  split
  · rename_i h
    have e : D = C := Value.ref.inj (beq_iff_eq.mp h)
    subst e
    rw [sc] at s
    exact s
  · obtain ⟨cd, hc, _⟩ := PySem.W.any_some hd
    show (if ((PySem.W.clsIn K C).isSome && PySem.W.typeIn K (.ref C) == some (.type "type")) = true then _ else none) = some b
    rw [hc, ht]
    exact s
theorem exm_of {K : PySem.W.Frag} {D C : Addr} {b : Bool} (he : PySem.W.subIn K (.ref C) (.type "BaseException") = some true) (hd : PySem.W.hasDictIn K C = true) (ht : PySem.W.typeIn K (.ref C) = some (.type "type")) (s : PySem.W.subIn K (.ref D) (.ref C) = some b) :
    PySem.W.exmOne K (.ref D) (.ref C) = some b := PySem.W.exm_ref he hd ht s
theorem bv_len : bootBuiltins "len" = some BF.len.val := by decide +kernel
theorem bv_all : bootBuiltins "all" = some BF.all.val := by decide +kernel
theorem bv_any : bootBuiltins "any" = some BF.any.val := by decide +kernel
theorem bv_sorted : bootBuiltins "sorted" = some BF.sorted.val := by decide +kernel
theorem bv_list : bootBuiltins "list" = some BF.list.val := by decide +kernel
theorem bv_tuple : bootBuiltins "tuple" = some BF.tuple.val := by decide +kernel
theorem bv_int : bootBuiltins "int" = some BF.int.val := by decide +kernel
theorem bv_str : bootBuiltins "str" = some BF.str.val := by decide +kernel
theorem bv_isinstance : bootBuiltins "isinstance" = some BF.isinst.val := by decide +kernel
theorem bv_min : bootBuiltins "min" = some BF.min.val := by decide +kernel
theorem bv_max : bootBuiltins "max" = some BF.max.val := by decide +kernel
theorem bv_sum : bootBuiltins "sum" = some BF.sum.val := by decide +kernel
theorem bt_int : bootBuiltins "int" = some (.type (tyN 0)) := by decide +kernel
theorem bt_str : bootBuiltins "str" = some (.type (tyN 1)) := by decide +kernel
theorem bt_list : bootBuiltins "list" = some (.type (tyN 2)) := by decide +kernel
theorem bt_tuple : bootBuiltins "tuple" = some (.type (tyN 3)) := by decide +kernel
theorem bt_bool : bootBuiltins "bool" = some (.type (tyN 4)) := by decide +kernel
end EV
set_option Elab.async false
set_option linter.all false
set_option maxRecDepth 100000
set_option maxHeartbeats 2000000
/-! EVst: a match of a sequence whose last place is starred. -/
namespace EV
open PySem PySem.Spec PyProof.Rows L2

/-- the places over the items before the rest -/
theorem matS_take : ∀ (is : List (Option (List Nat) × Option Nat)) (xs : List PV) (e : Env), is.length ≤ xs.length →
    matS is xs e = (matS is (xs.take is.length) e).map fun o => o.map fun p => (p.1, xs.drop is.length)
  | [], xs, e, _ => by simp [matS]
  | (none, none) :: is, x :: xs, e, h => by
    have := matS_take is xs e (by simpa using h)
    simpa [matS] using this
  | (none, some i) :: is, x :: xs, e, h => by
    have := matS_take is xs (e.set i (.sh x)) (by simpa using h)
    simpa [matS] using this
  | (some t, j) :: is, x :: xs, e, h => by
    have := matS_take is xs e (by simpa using h)
    cases x <;> simp [matS]
    rename_i z
    by_cases q : t = z
    · simpa [q] using this
    · simp [q]
  | (_, _) :: is, [], e, h => by simp at h

section
variable {S : Sg} {sc : Scope} {q : Nat} {xa : Option (Addr × Value × Option Addr)} {W : WX} {X : Cx} {F0 H0 F H : Hp} {pins : List (Addr × Obj)}

/-- no slot owns it -/
def NoD (D : Addr) (σ : L2.St) (e : Env) : Prop := ∀ (j : Nat) (y : PV), e[j]? = some (.ow y) → σ[j]? ≠ some (some (.ref D))
theorem NoD.set {D : Addr} {σ : L2.St} {e : Env} (h : NoD D σ e) (i : Nat) (v : V) (x : PV) : NoD D (σ.set i (some v)) (e.set i (.sh x)) := fun j y e1 => by
  rw [get_set] at e1 ⊢
  by_cases q : i = j
  · rw [if_pos q] at e1
    split at e1 <;> simp at e1
  · rw [if_neg q] at e1 ⊢
    exact h j y e1
theorem NoD.of {g : Gh} {D : Addr} {σ : L2.St} {e : Env} (R : Rel g xa F0 H0 F σ H e) (h : H D = none) : NoD D σ e := fun j y e1 e2 => by
  have z := R.sl j
  rw [e1] at z
  obtain ⟨q', e3, _, _, h4⟩ := z
  rw [e2] at e3
  cases e3
  obtain ⟨u, hu⟩ := h4.some
  rw [h] at hu
  cases hu
/-- a laid value that no slot owns goes into a slot -/
theorem Rel.putOw {g : Gh} {σ : L2.St} {env : Env} (R1 : Rel g xa F0 H0 F σ H env) (i : Nat) {p : Addr} {x : PV} (h1 : H0 p = none) (h2 : F p = none) (h3 : OwnC g F (H p) x) (no : NoD p σ env) :
    Rel g xa F0 H0 F (σ.set i (some (.ref p))) H (env.set i (.ow x)) := by
  have own : ∀ (j : Nat) (y : PV) (q : Addr), env[j]? = some (.ow y) → σ[j]? = some (some (.ref q)) → q ≠ p := fun j y q e1 e2 z => by
    subst z
    exact no j y e1 e2
  refine ⟨R1.ext, R1.fx, by simp [R1.len], fun j => ?_, fun j k a b p' hjk e1 e2 e3 => ?_⟩
  · rw [get_set, get_set, R1.len]
    by_cases h : i = j
    · rw [if_pos h, if_pos h]
      by_cases hl : i < env.length
      · rw [if_pos hl, if_pos hl]
        exact ⟨p, rfl, h1, h2, h3⟩
      · rw [if_neg hl, if_neg hl]
        trivial
    · rw [if_neg h, if_neg h]
      exact R1.sl j
  · rw [get_set] at e1 e2 e3
    rw [get_set]
    rw [R1.len] at e3 ⊢
    by_cases hj : i = j
    · have hk : i ≠ k := fun z => hjk (hj.symm.trans z)
      rw [if_neg hk] at e2 ⊢
      rw [if_pos hj] at e1 e3
      split at e1
      · rename_i hl
        rw [if_pos hl] at e3
        cases e3
        exact fun z => own k b p e2 z rfl
      · cases e1
    · rw [if_neg hj] at e1 e3
      by_cases hk : i = k
      · rw [if_pos hk] at e2 ⊢
        split at e2
        · rename_i hl
          rw [if_pos hl]
          intro z
          have z' : V.ref p = V.ref p' := Option.some.inj (Option.some.inj z)
          cases z'
          exact own j a p e1 e3 rfl
        · cases e2
      · rw [if_neg hk] at e2 ⊢
        exact R1.ap j k a b p' hjk e1 e2 e3

/-- the names are bound, the rest's name behind them -/
theorem bnd_st (C : CxO S sc q xa W X) {E : Value → Shared → Prop} {Q : Unit → Shared → Prop} {i : Nat} {n : Str} {D : Addr} {x : PV} (h1 : S.N[i]? = some n) (h2 : StoS S sc n = true) (hD : H0 D = none) (hF : F D = none) (hO : OwnC S.g F (H D) x) :
    ∀ {bs : List (Str × Value)} {e e' : Env} {σ : L2.St} {s : Shared}, Bnd S sc F bs e e' → Inv X pins σ H s → Rel S.g xa F0 H0 F σ H e → NoD D σ e →
    (∀ σ' s', Inv X pins σ' H s' → Rel S.g xa F0 H0 F σ' H (e'.set i (.ow x)) → Q () s') → wpAny (model X.prog X.w) X.A (assignInOrder ((bs ++ [(n, Value.ref D)]).map fun (n, _) => bindName X.env n) ((bs ++ [(n, Value.ref D)]).map (·.2))) Q E s
  | [], _, _, _, s, .nil, I, R, no, h => by
    obtain ⟨l1, l2⟩ := stoS C.sc C.fn h2
    refine wpAny_assignInOrder_more (wpAny_bindName (store_ok I (v := .ref D) (by rw [C.N]; exact C.nd) (by rw [C.N]; exact h1) l1 rfl (fun s' I' => ?_) l2))
    exact wpAny_assignInOrder_none (h _ _ I' (R.putOw i hD hF hO no))
  | (m, u) :: bs, _, _, _, s, .cons j g1 g2 rv rx b, I, R, no, h => by
    obtain ⟨l1, l2⟩ := stoS C.sc C.fn g2
    refine wpAny_assignInOrder_more (wpAny_bindName (store_ok I (by rw [C.N]; exact C.nd) (by rw [C.N]; exact g1) l1 rv (fun s' I' => ?_) l2))
    exact bnd_st C h1 h2 hD hF hO b I' (R.setSh j rx) (no.set j _ _) h

def MatT (S : Sg) (sc : Scope) (F' : Hp) (e : Env) (b : Str × Value) (Q : Option (List (Str × Value)) → Shared → Prop) (s' : Shared) : Option (Env × List PV) → Prop
  | none => Q none s'
  | some (e', _) => ∀ bs, Bnd S sc F' bs e e' → Q (some (bs ++ [b])) s'
/-- the items against the patterns, the rest behind them -/
theorem each_st (C : CxO S sc q xa W X) {ps : List Pattern} {is : List (Option (List Nat) × Option Nat)} {n : Str} {sp : Pos} {w : Value} (p : PIt S sc ps is) : ∀ {xs : List PV} {vs : List V} {us : List Value} {e : Env} {r : Option (Env × List PV)} {σ : L2.St} {s : Shared} {F H : Hp} {Q : Option (List (Str × Value)) → Shared → Prop},
    FLe F H → RepVs S.g F vs xs → Vals vs us → ps.length = xs.length → matS is xs e = some r → Inv X pins σ H s →
    (∀ F' H' s', Ext H H' → Fx F H F' H' → Inv X pins σ H' s' → MatT S sc F' e (n, w) Q s' r) → wpAny (model X.prog X.w) X.A (matchEach (ps ++ [.MatchStar (some n) sp]) X.env (us ++ [w])) Q X.xe s := by
  induction p with
  | nil =>
    intro xs vs us e r σ s F H Q f rv ru hl hm I h
    cases xs with
    | cons a b => simp at hl
    | nil =>
      cases rv
      cases ru
      simp only [matS] at hm
      cases hm
      refine PySem.W.kun_each ?_
      show wpAny _ _ (pure (some [])) _ _ _
      exact wpAny_pure (h F H s (.refl H) (.refl f) I [] .nil)
  | cap i h1 h2 p ih =>
    intro xs vs us e r σ s F H Q f rv ru hl hm I h
    cases rv with
    | nil => simp at hl
    | cons rv rr =>
      cases ru with
      | cons r1 r2 =>
        simp only [matS] at hm
        refine wpAny_matchEach_cons (wpAny_matchPattern_Capture ?_) rfl
        refine ih f rr r2 (by simpa using hl) hm I fun F' H' s' e1 e2 I' => ?_
        have h3 := h F' H' s' e1 e2 I'
        cases r with
        | none => exact h3
        | some r => exact fun bs b => h3 _ (.cons i h1 h2 r1 (rv.mono e2.ff) b)
  | any p ih =>
    intro xs vs us e r σ s F H Q f rv ru hl hm I h
    cases rv with
    | nil => simp at hl
    | cons rv rr =>
      cases ru with
      | cons r1 r2 =>
        simp only [matS] at hm
        refine wpAny_matchEach_cons (wpAny_matchPattern_Capture ?_) rfl
        refine ih f rr r2 (by simpa using hl) hm I fun F' H' s' e1 e2 I' => ?_
        have h3 := h F' H' s' e1 e2 I'
        cases r with
        | none => exact h3
        | some r => exact fun bs b => h3 _ b
  | val l hs hsl p ih =>
    intro xs vs us e r σ s F H Q f rv ru hl hm I h
    subst hs
    cases rv with
    | nil => simp at hl
    | cons rv rr =>
      cases ru with
      | cons r1 r2 =>
        rename_i x _ _ _
        cases x with
        | str t =>
          obtain ⟨rfl, ht⟩ := RepB.str (.inl rv : RepB S.g F H _ _)
          obtain ⟨tk, rfl⟩ := r1
          simp only [matS, beq_iff_eq] at hm
          refine wpAny_matchEach_cons (wpAny_matchPattern_Value (Calls.Constant_str ?_)) rfl
          refine cmp_strs C f (I.tok _) ht hsl fun F1 H1 s1 e1 f1 I1 => ?_
          show wpAny _ _ (truthy (.bool (t == l))) _ _ _
          refine wpAny_of_eq (a := (t == l)) rfl ?_
          cases et : t == l with
          | true =>
            have e2 : t = l := by simpa using et
            rw [if_pos e2.symm] at hm
            show wpAny _ _ (matchEach _ X.env _) _ _ _
            refine ih f1.fh (rr.mono f1.ff) r2 (by simpa using hl) hm I1 fun F' H' s' e3 f2 I' => ?_
            have h3 := h F' H' s' (e1.trans e3) (Fx.trans e1 f1 f2) I'
            cases r with
            | none => exact h3
            | some r => exact fun bs b => h3 _ b
          | false =>
            have e2 : ¬ l = t := fun z => by rw [z] at et; simp at et
            rw [if_neg e2] at hm
            cases hm
            exact h F1 H1 s1 e1 f1 I1
        | _ => simp [matS] at hm

/-- the first items and a new list of the rest -/
theorem unp_st {prog : Program} {w : World} {A : Around} {E : Value → Shared → Prop} {s : Shared} {l : Addr} {its : Array Value} {k : Nat} {Q : List Value → Shared → Prop} (hl : s.heap.IsList l its) (hh : A.handled = none) (hk : k ≤ its.size) (hz : its.size ≤ sizeLine)
    (h : ∀ (h' : Heap) (tk : Nat), (∀ b o, s.heap.get? b = some o → h'.get? b = some o) → Q (its.toList.take k ++ [.ref h'.objs.size]) { s with heap := h'.push { cls := .type "list", data := .seq (its.toList.drop k).toArray }, toks := tk }) :
    wpAny (model prog w) A (unpackItems (.ref l) (k + 1) (some k)) Q E s := by
  have hll : l < s.heap.objs.size := by obtain ⟨o, ho, _⟩ := hl; exact Heap.lt_size ho
  have hlt : l ≠ s.heap.objs.size := Nat.ne_of_lt hll
  unfold unpackItems
  refine wpAny_bind ?_
  unfold notIterableAtAll
  refine wpAny_bind (wpAny_specialOf hl.typeIs slot_list_iter.lookup ?_)
  refine wpAny_pure ?_
  simp only [Bool.false_eq_true, if_false]
  refine wpAny_bind (wpAny_holding (wpAny_pyIter_list hl ?_))
  refine wpAny_bind (wpAny_holding (PySem.W.kun_draw hlt k 0 _ _ ⟨_, Heap.get?_push_size _ rfl, rfl, rfl⟩ (hl.push _) (by omega) fun h₁ hit₁ hs₁ => ?_))
  have hl₁ : h₁.IsList l its := (hl.push _).extBut hs₁.extBut hlt
  rw [Nat.zero_add] at hit₁
  obtain ⟨oi, hoi, _⟩ := id hit₁
  obtain ⟨ol, hol, _⟩ := id hl₁
  rw [List.drop_zero]
  have hfl : (its.toList.take k).length = k := by rw [List.length_take, Array.length_toList]; omega
  rw [if_neg (show ¬ ((its.toList.take k).length < k) by rw [hfl]; omega)]
  refine wpAny_bind (wpAny_holding (PySem.W.kun_collect (s := { s with heap := h₁ }) (T := "list_iterator") (.inr (.inr (.inl rfl))) (Walks.list (A := A.in1) hh s.heap.objs.size l hlt its) (fun j u st => st.1.typeIs) (k := k) hk ⟨hit₁, hl₁⟩ (Heap.lt_size hoi) (Heap.lt_size hol) (fun h₂ tk hk2 => ?_) hz))
  have hd : (its.toList.drop k).length = its.size - k := by rw [List.length_drop, Array.length_toList]
  show wpAny _ _ (if (its.toList.drop k).length < k + 1 - 1 - k then _ else _) _ _ _
  rw [if_neg (by omega)]
  show wpAny _ _ (newList ((its.toList.drop k).take ((its.toList.drop k).length - (k + 1 - 1 - k))) >>= fun d => pure (its.toList.take k ++ [d] ++ (its.toList.drop k).drop ((its.toList.drop k).length - (k + 1 - 1 - k)))) _ _ _
  have e0 : (its.toList.drop k).length - (k + 1 - 1 - k) = (its.toList.drop k).length := by omega
  rw [e0, List.take_length, List.drop_length, ]
  refine wpAny_bind (wpAny_newList ?_ (by rw [hd]; omega))
  rw [List.append_nil]
  refine wpAny_pure (h h₂ tk fun b o e => ?_)
  have hb : b ≠ s.heap.objs.size := Nat.ne_of_lt (Heap.lt_size e)
  exact hk2 b o hb (hs₁.extBut b o hb (Heap.get?_push_of_some _ e))

theorem SCs.seqSt {ps : List Pattern} {is : List (Option (List Nat) × Option Nat)} {n : Str} {i : Nat} {sp pos : Pos} {body : List Stmt} {rest : List MatchCase} {b : Ss} {cs : Cs} (hq : 1 ≤ q) (hp : PIt S sc ps is) (hlen : ps.length = is.length) (h1 : S.N[i]? = some n) (h2 : StoS S sc n = true) (hps : 1 ≤ ps.length)
    (hstar : (ps ++ [Pattern.MatchStar (some n) sp]).findIdx? (·.isStar) = some ps.length) (hname : ((ps ++ [Pattern.MatchStar (some n) sp])[ps.length]?.elim [] (·.names)).isEmpty = false)
    (hwild : ((ps ++ [Pattern.MatchStar (some n) sp]).all fun p => p.isWildcard || (p.isStar && p.names.isEmpty)) = false) (hb : SSs S sc q body b) (hr : SCs S sc q rest cs) :
    SCs S sc q (⟨.MatchSequence (ps ++ [.MatchStar (some n) sp]) pos, none, body⟩ :: rest) (.cons (.seq is (some i)) b cs) := fun xa W X C pins s σ H D first v u x F0 H0 F env I rv R rx p => by
  cases x with
  | lst xs =>
    cases rx with
    | lst ha rs =>
      rename_i a vs
      cases rv
      have hq2 : SqL X.K H a vs := sqL_of (rd_mono R.fx.fh ha)
      obtain ⟨its, rv2, pl, hz⟩ := I.list hq2
      have hl := rv2.length
      have hz' : its.toArray.size ≤ sizeLine := by rw [List.size_toArray, ← hl]; exact hz
      have hfit : ((its.toArray.size : Nat) : Int) < 2 ^ 63 := by
        rw [sizeLine_eq] at hz'
        omega
      have hxl : its.toArray.size = xs.length := by rw [List.size_toArray, ← hl, rs.length]
      have hpl : (ps ++ [Pattern.MatchStar (some n) sp]).length = is.length + 1 := by rw [List.length_append, List.length_singleton, hlen]
      simp only [execM, matP, lstOf] at p
      refine wpAny_matchCases_cons ?_
      by_cases hn : is.length ≤ xs.length
      · rw [if_pos hn] at p
        refine PySem.W.kun_seqL pl.isList hfit hstar hwild hname (by omega) (by omega) ?_
        rw [hpl, hlen]
        refine unp_st (s := { s with toks := s.toks + 1 + 1 }) pl.isList (I.ok.hd (C.cl hq)) (by omega) hz' fun h' tk hx => ?_
        have I1 : Inv X pins σ H { s with heap := h', toks := tk } := I.kept (t' := tk) hx
        have I2 := I1.lnew (t' := tk) (rv2.drop is.length) (by rw [List.length_drop]; omega)
        have nD : H h'.objs.size = none := I1.fresh
        rw [matS_take is xs env hn] at p
        cases em : matS is (xs.take is.length) env with
        | none => rw [em] at p; exact p.elim
        | some r =>
          rw [em] at p
          have f1 : Fx F H F (upd H h'.objs.size (.lst (vs.drop is.length))) := Fx.lay R.fx.fh nD
          have x1 : Ext H (upd H h'.objs.size (.lst (vs.drop is.length))) := Ext.new nD
          refine each_st C hp f1.fh (rs.take is.length) (us := its.toArray.toList.take is.length) (by simpa using rv2.take is.length) (by rw [hlen, List.length_take]; omega) em I2 fun F' H' s' e1 g1 I' => ?_
          have ex := x1.trans e1
          have fx := Fx.trans x1 f1 g1
          have R1 := R.mono ex fx
          cases r with
          | none =>
            exact hr xa W X C pins s' σ H' D false (.ref a) _ (.lst xs) F0 H0 F' env I' rfl R1 (.lst (rd_mono fx.ff ha) (rs.mono fx.ff)) (PostF.mono fx.ff p)
          | some r =>
            obtain ⟨e', rest'⟩ := r
            intro bs hbd
            have hD1 : upd H h'.objs.size (.lst (vs.drop is.length)) h'.objs.size = some (.lst (vs.drop is.length)) := upd_same ..
            have hF : F' h'.objs.size = none := g1.stay e1 hD1 (fun _ z => by cases z) (Fx.none R.fx.fh nD)
            have hO : OwnC S.g F' (H' h'.objs.size) (.lst (xs.drop is.length)) := ⟨_, e1 _ _ hD1, (rs.drop is.length).mono fx.ff⟩
            refine bnd_st C h1 h2 (R.ext.back nD) hF hO hbd I' R1 (NoD.of R nD) fun σ' s2 I3 R3 => ?_
            exact (hb xa W X C).run pins s2 σ' H' D I3 ⟨F0, H0, F', _, R3, PostF.mono fx.ff p⟩
      · rw [if_neg hn] at p
        refine PySem.W.kun_fewL pl.isList hfit hstar (by omega) (by omega) ?_
        exact hr xa W X C pins _ σ H D false (.ref a) _ (.lst xs) F0 H0 F env (I.tok _) rfl R (.lst ha rs) p
  | _ => simp only [execM, matP, lstOf] at p; exact p.elim
theorem SCs.star {pl : List Pattern} {is : List (Option (List Nat) × Option Nat)} {n : Str} {sp pos : Pos} {body : List Stmt} {rest : List MatchCase} {b : Ss} {cs : Cs} (i : Nat) (hq : 1 ≤ q) (hpl : pl = pl.dropLast ++ [.MatchStar (some n) sp]) (hp : PIt S sc pl.dropLast is) (hlen : pl.dropLast.length = is.length)
    (h1 : S.N[i]? = some n) (h2 : StoS S sc n = true) (hps : 1 ≤ pl.dropLast.length) (hstar : pl.findIdx? (·.isStar) = some pl.dropLast.length) (hname : (pl[pl.dropLast.length]?.elim [] (·.names)).isEmpty = false)
    (hwild : (pl.all fun p => p.isWildcard || (p.isStar && p.names.isEmpty)) = false) (hb : SSs S sc q body b) (hr : SCs S sc q rest cs) :
    SCs S sc q (⟨.MatchSequence pl pos, none, body⟩ :: rest) (.cons (.seq is (some i)) b cs) := by
  generalize pl.dropLast = ps at *
  subst hpl
  exact SCs.seqSt hq hp hlen h1 h2 hps hstar hname hwild hb hr
end
end EV
set_option Elab.async false
set_option linter.all false
set_option maxRecDepth 100000
set_option maxHeartbeats 2000000
/-! PL: the evaluator's steps as rewriting rules; plain Lean. -/
namespace EV
open PySem
theorem bind_ok {m v} {k : Md → PV → Rs} : (Rs.ok m v).bind k = k m v := rfl
theorem bind_ex {x} {k : Md → PV → Rs} : (Rs.ex x).bind k = .ex x := rfl
theorem lbind_ok {n vs} {k : Bool → List PV → Rs} : (Rl.ok n vs).bind k = k n vs := rfl
theorem lbind_ex {x} {k : Bool → List PV → Rs} : (Rl.ex x).bind k = .ex x := rfl
theorem cond_t {m y n} : (Rs.ok m (.bl true)).cond y n = y := rfl
theorem cond_f {m y n} : (Rs.ok m (.bl false)).cond y n = n := rfl
theorem cond_b {m y n} {b : Bool} : (Rs.ok m (.bl b)).cond y n = if b = true then y else n := by cases b <;> rfl
theorem cons_sh {v n vs} : (Rs.ok .sh v).cons (.ok n vs) = .ok n (v :: vs) := by cases n <;> rfl
theorem cons_fr {v n vs} : (Rs.ok .fr v).cons (.ok n vs) = .ok n (v :: vs) := by cases n <;> rfl
theorem cons_bo {v n vs} : (Rs.ok .bo v).cons (.ok n vs) = .ok false (v :: vs) := by cases n <;> rfl
theorem cons_ex {x l} : (Rs.ex x).cons l = .ex x := by cases l <;> rfl
theorem cons_ok_ex {m v x} : (Rs.ok m v).cons (.ex x) = .ex x := rfl
theorem kp_sh {v} {k : PV → Rs} : (Rs.ok .sh v).kp k = k v := rfl
theorem kp_fr {v} {k : PV → Rs} : (Rs.ok .fr v).kp k = k v := rfl
theorem kp_ex {x} {k : PV → Rs} : (Rs.ex x).kp k = .ex x := rfl
theorem fin_f {r} : fin false r = r := rfl
theorem fin_t {r} : fin true r = tru r := rfl
theorem tru_bl {m b} : tru (.ok m (.bl b)) = .ok .sh (.bl b) := rfl
theorem tru_ex {x} : tru (.ex x) = .ex x := rfl
theorem tru_lst {m xs} : tru (.ok m (.lst xs)) = .ok .sh (.bl (!xs.isEmpty)) := rfl
theorem tru_str {m s} : tru (.ok m (.str s)) = .ok .sh (.bl (!s.isEmpty)) := rfl
theorem sl_sh {v} : ofSl false (some (.sh v)) = .ok .sh v := rfl
theorem sl_ow {v} : ofSl false (some (.ow v)) = .ok .bo v := rfl
theorem sl_sht {v} : ofSl true (some (.sh v)) = tru (.ok .sh v) := rfl
theorem sl_owt {v} : ofSl true (some (.ow v)) = tru (.ok .bo v) := rfl
theorem ofB_some' {b} : ofB (some b) = .ok .sh (.bl b) := rfl
theorem ofV_some {m v} : ofV m (some v) = .ok m v := rfl
theorem ofO_some {r} : ofO (some r) = r := rfl
theorem nox_ok {m v} : (Rs.ok m v).nox = .ok m v := rfl
theorem c_eq_str {a b : List Nat} : cmpP .eq (.str a) (.str b) = some (a == b) := by simp [cmpP, plain, dep, eqv]
theorem c_ne_str {a b : List Nat} : cmpP .ne (.str a) (.str b) = some (!(a == b)) := by simp [cmpP, plain, dep, eqv]
theorem c_eq_int {a b : Int} : cmpP .eq (.int a) (.int b) = some (a == b) := by simp [cmpP, plain, dep, eqv]
theorem c_ne_int {a b : Int} : cmpP .ne (.int a) (.int b) = some (!(a == b)) := by simp [cmpP, plain, dep, eqv]
theorem c_lt_int {a b : Int} : cmpP .lt (.int a) (.int b) = some (decide (a < b)) := by simp [cmpP, plain, dep, alk, ltv]
theorem c_gt_int {a b : Int} : cmpP .gt (.int a) (.int b) = some (decide (b < a)) := by simp [cmpP, plain, dep, alk, ltv]
theorem c_le_int {a b : Int} : cmpP .le (.int a) (.int b) = some (decide (a ≤ b)) := by
  have e : decide (a ≤ b) = !decide (b < a) := by rw [← decide_not]; congr 1; simp
  rw [e]
  simp [cmpP, plain, dep, alk, ltv]
theorem c_ge_int {a b : Int} : cmpP .ge (.int a) (.int b) = some (decide (b ≤ a)) := by
  have e : decide (b ≤ a) = !decide (a < b) := by rw [← decide_not]; congr 1; simp
  rw [e]
  simp [cmpP, plain, dep, alk, ltv]
theorem c_in_sgn {c : Nat} {b : List Nat} : cmpP .isin (.str [c]) (.str b) = some (b.contains c) := rfl
theorem c_nin_sgn {c : Nat} {b : List Nat} : cmpP .notin (.str [c]) (.str b) = some (!b.contains c) := rfl
theorem c_is_non {x : PV} : cmpP .is x .non = some (isNonP x) := by cases x <;> rfl
theorem c_isnot_non {x : PV} : cmpP .isnot x .non = some (!isNonP x) := by cases x <;> rfl
theorem cmpR_eq {o x y} {b : Bool} (h : cmpP o x y = some b) : cmpR o x y = .ok .sh (.bl b) := by unfold cmpR; rw [h]; rfl
theorem chnR_eq {o x y r} {b : Bool} (h : cmpP o x y = some b) : chnR o x y r = if b = true then r else .ok .sh (.bl false) := by unfold chnR; rw [h]; cases b <;> rfl
theorem b_len_lst {xs} : bltP .len [.lst xs] = .ok .sh (.int xs.length) := rfl
theorem b_len_tup {xs} : bltP .len [.tup xs] = .ok .sh (.int xs.length) := rfl
theorem b_len_cdt {ks xs} : bltP .len [.cdt ks xs] = .ok .sh (.int xs.length) := rfl
theorem b_len_str {s} : bltP .len [.str s] = .ok .sh (.int s.length) := rfl
theorem b_all {xs} : bltP .all [.lst xs] = ofB (allT xs) := rfl
theorem b_int_int {i} : bltP .int [.int i] = .ok .sh (.int i) := rfl
theorem b_int_bl {b} : bltP .int [.bl b] = .ok .sh (.int (if b then 1 else 0)) := rfl
theorem b_int_str {s : List Nat} : bltP .int [.str s] = if s.all isFig && decide (0 < s.length) && decide (s.length ≤ 600) then .ok .sh (.int (readN s)) else .bad := rfl
theorem b_str_int {i : Int} : bltP .str [.int i] = if 0 ≤ i && small i then .ok .sh (.str (numD i.toNat)) else .bad := rfl
theorem b_str_str {s} : bltP .str [.str s] = .ok .sh (.str s) := rfl
theorem b_isinst {v t} : bltP .isinst [v, .ty t] = ofB (isTy v t) := rfl
theorem b_list_lst {xs} : bltP .list [.lst xs] = .ok .fr (.lst xs) := rfl
theorem b_list_dct {t ks vs} : bltP .list [.dct t ks vs] = .ok .fr (.lst ks) := rfl
theorem b_tuple_lst {xs} : bltP .tuple [.lst xs] = .ok .sh (.tup xs) := rfl
theorem ty_int0 (i : Int) : isTy (.int i) 0 = some true := rfl
theorem ty_int1 (i : Int) : isTy (.int i) 1 = some false := rfl
theorem ty_int2 (i : Int) : isTy (.int i) 2 = some false := rfl
theorem ty_int3 (i : Int) : isTy (.int i) 3 = some false := rfl
theorem ty_int4 (i : Int) : isTy (.int i) 4 = some false := rfl
theorem is23_int (i : Int) : bltP .isinst [(.int i), .tup [.ty 2, .ty 3]] = .ok .sh (.bl false) := rfl
theorem ty_str0 (s : List Nat) : isTy (.str s) 0 = some false := rfl
theorem ty_str1 (s : List Nat) : isTy (.str s) 1 = some true := rfl
theorem ty_str2 (s : List Nat) : isTy (.str s) 2 = some false := rfl
theorem ty_str3 (s : List Nat) : isTy (.str s) 3 = some false := rfl
theorem ty_str4 (s : List Nat) : isTy (.str s) 4 = some false := rfl
theorem is23_str (s : List Nat) : bltP .isinst [(.str s), .tup [.ty 2, .ty 3]] = .ok .sh (.bl false) := rfl
theorem ty_lst0 (xs : List PV) : isTy (.lst xs) 0 = some false := rfl
theorem ty_lst1 (xs : List PV) : isTy (.lst xs) 1 = some false := rfl
theorem ty_lst2 (xs : List PV) : isTy (.lst xs) 2 = some true := rfl
theorem ty_lst3 (xs : List PV) : isTy (.lst xs) 3 = some false := rfl
theorem ty_lst4 (xs : List PV) : isTy (.lst xs) 4 = some false := rfl
theorem is23_lst (xs : List PV) : bltP .isinst [(.lst xs), .tup [.ty 2, .ty 3]] = .ok .sh (.bl true) := rfl
theorem ty_tup0 (xs : List PV) : isTy (.tup xs) 0 = some false := rfl
theorem ty_tup1 (xs : List PV) : isTy (.tup xs) 1 = some false := rfl
theorem ty_tup2 (xs : List PV) : isTy (.tup xs) 2 = some false := rfl
theorem ty_tup3 (xs : List PV) : isTy (.tup xs) 3 = some true := rfl
theorem ty_tup4 (xs : List PV) : isTy (.tup xs) 4 = some false := rfl
theorem is23_tup (xs : List PV) : bltP .isinst [(.tup xs), .tup [.ty 2, .ty 3]] = .ok .sh (.bl true) := rfl
theorem ty_bl0 (b : Bool) : isTy (.bl b) 0 = some true := rfl
theorem ty_bl1 (b : Bool) : isTy (.bl b) 1 = some false := rfl
theorem ty_bl2 (b : Bool) : isTy (.bl b) 2 = some false := rfl
theorem ty_bl3 (b : Bool) : isTy (.bl b) 3 = some false := rfl
theorem ty_bl4 (b : Bool) : isTy (.bl b) 4 = some true := rfl
theorem is23_bl (b : Bool) : bltP .isinst [(.bl b), .tup [.ty 2, .ty 3]] = .ok .sh (.bl false) := rfl
theorem ty_non0  : isTy .non 0 = some false := rfl
theorem ty_non1  : isTy .non 1 = some false := rfl
theorem ty_non2  : isTy .non 2 = some false := rfl
theorem ty_non3  : isTy .non 3 = some false := rfl
theorem ty_non4  : isTy .non 4 = some false := rfl
theorem is23_non  : bltP .isinst [.non, .tup [.ty 2, .ty 3]] = .ok .sh (.bl false) := rfl
theorem it_lst {xs} : itm .seq [.lst xs] = some xs := rfl
theorem it_tup {xs} : itm .seq [.tup xs] = some xs := rfl
theorem it_str {s : List Nat} : itm .seq [.str s] = some (s.map fun c => .str [c]) := rfl
theorem it_rng1 {j : Int} : itm .rng [.int j] = if inR j then some (rngL 0 j) else none := rfl
theorem it_rng2 {i j : Int} : itm .rng [.int i, .int j] = if inR i && inR j then some (rngL i j) else none := rfl
theorem it_enum {xs : List PV} : itm .enum [.lst xs] = some (xs.zipIdx.map fun p => .tup [.int p.2, p.1]) := rfl
theorem c_ne_bl {a b : Bool} : cmpP .ne (.bl a) (.bl b) = some (!(a == b)) := by cases a <;> cases b <;> rfl
theorem c_eq_bl {a b : Bool} : cmpP .eq (.bl a) (.bl b) = some (a == b) := by cases a <;> cases b <;> rfl
theorem strK_str {s r} : strK (.str s) r = r := rfl
theorem m_sw {s t} : mthP .startswith (.str s) [.str t] = .ok .sh (.bl (pre t s)) := rfl
theorem m_split {c : Nat} {s} (h : c < 128) : mthP .split (.str s) [.str [c]] = .ok .fr (.lst ((splitOn c s).map .str)) := by
  show (if 128 ≤ c then Rs.bad else _) = _
  rw [if_neg (by omega)]
theorem fk_sh {v e} {k : Md → PV → Fl} : (Rs.ok .sh v).fk e k = k .sh v := rfl
theorem fk_fr {v e} {k : Md → PV → Fl} : (Rs.ok .fr v).fk e k = k .fr v := rfl
theorem fk_ex {x e} {k : Md → PV → Fl} : (Rs.ex x).fk e k = .ex x e := rfl
theorem fl_ok {m v e} {k : Md → PV → Fl} : (Rs.ok m v).fl e k = k m v := rfl
theorem fl_ex {x e} {k : Md → PV → Fl} : (Rs.ex x).fl e k = .ex x e := rfl
theorem lfl_ok {n v e} {k : Bool → List PV → Fl} : (Rl.ok n v).fl e k = k n v := rfl
theorem lfl_ex {x e} {k : Bool → List PV → Fl} : (Rl.ex x).fl e k = .ex x e := rfl
theorem fc_b {m e y n} {b : Bool} : (Rs.ok m (.bl b)).fc e y n = if b = true then y else n := by cases b <;> rfl
theorem fc_ex {x e y n} : (Rs.ex x).fc e y n = .ex x e := rfl
theorem seq_nx {e k} : (Fl.nx e).seq k = k e := rfl
theorem seq_rt {m v k} : (Fl.rt m v).seq k = .rt m v := rfl
theorem seq_ex {x e k} : (Fl.ex x e).seq k = .ex x e := rfl
theorem seq_bk {e k} : (Fl.bk e).seq k = .bk e := rfl
theorem seq_ct {e k} : (Fl.ct e).seq k = .ct e := rfl
theorem seq_if {c : Prop} [Decidable c] {a b : Fl} {k} : (if c then a else b).seq k = if c then a.seq k else b.seq k := by split <;> rfl
theorem ofFl_rt {m v} : ofFl (.rt m v) = .ok m v := rfl
theorem ofFl_nx {e} : ofFl (.nx e) = .ok .sh .non := rfl
theorem ofFl_ex {x e} : ofFl (.ex x e) = .ex x := rfl
theorem ofFl_if {c : Prop} [Decidable c] {a b : Fl} : ofFl (if c then a else b) = if c then ofFl a else ofFl b := by split <;> rfl
theorem turn_nx {cl e k} : (Fl.nx e).turn cl k = k (clr e cl) := rfl
theorem turn_ct {cl e k} : (Fl.ct e).turn cl k = k (clr e cl) := rfl
theorem turn_bk {cl e k} : (Fl.bk e).turn cl k = .nx (clr e cl) := rfl
theorem turn_rt {cl m v k} : (Fl.rt m v).turn cl k = .rt m v := rfl
theorem turn_ex {cl x e k} : (Fl.ex x e).turn cl k = .ex x e := rfl
/-- a comprehension's turns, all of them by a function -/
theorem turns_map {f t : PV → Rs} {g : PV → PV} : ∀ (xs acc : List PV), (∀ x ∈ xs, t x = .ok .sh (.bl true)) → (∀ x ∈ xs, f x = .ok .sh (g x) ∨ f x = .ok .fr (g x)) → turns f t xs acc = .ok .fr (.lst (acc ++ xs.map g))
  | [], acc, _, _ => by simp [turns]
  | x :: xs, acc, h1, h2 => by
    have ih := turns_map xs (acc ++ [g x]) (fun y hy => h1 y (List.mem_cons_of_mem _ hy)) (fun y hy => h2 y (List.mem_cons_of_mem _ hy))
    rcases h2 x List.mem_cons_self with e | e <;> simp [turns, h1 x List.mem_cons_self, e, Rs.cond, Rs.kp, ih]
/-- .. with a test -/
theorem turns_filter {f t : PV → Rs} {g : PV → PV} {p : PV → Bool} : ∀ (xs acc : List PV), (∀ x ∈ xs, t x = .ok .sh (.bl (p x))) → (∀ x ∈ xs, f x = .ok .sh (g x)) → turns f t xs acc = .ok .fr (.lst (acc ++ (xs.filter p).map g))
  | [], acc, _, _ => by simp [turns]
  | x :: xs, acc, h1, h2 => by
    have ih := fun acc => turns_filter xs acc (fun y hy => h1 y (List.mem_cons_of_mem _ hy)) (fun y hy => h2 y (List.mem_cons_of_mem _ hy))
    cases hp : p x <;> simp [turns, h1 x List.mem_cons_self, h2 x List.mem_cons_self, hp, Rs.cond, Rs.kp, ih]
theorem allT_map (p : Nat → Bool) : ∀ s : List Nat, allT (s.map fun c => .bl (p c)) = some (s.all p)
  | [] => rfl
  | c :: s => by simp [allT, allT_map p s]
end EV
set_option Elab.async false
set_option linter.all false
set_option maxRecDepth 100000
set_option maxHeartbeats 2000000
/-! PL2: plain lemmas for the laws of notes; no program in sight. -/
namespace EV
open PySem
theorem fig_eq (c : Nat) : [48, 49, 50, 51, 52, 53, 54, 55, 56, 57].contains c = isFig c := by
  unfold isFig
  rw [Bool.eq_iff_iff]
  simp
  omega
def isLet (c : Nat) : Bool := decide (97 ≤ c) && decide (c ≤ 122)
theorem let_eq (c : Nat) : [97, 98, 99, 100, 101, 102, 103, 104, 105, 106, 107, 108, 109, 110, 111, 112, 113, 114, 115, 116, 117, 118, 119, 120, 121, 122].contains c = isLet c := by
  unfold isLet
  rw [Bool.eq_iff_iff]
  simp
  omega
/-- all of a text's signs by a test -/
theorem all_sgn {f t : PV → Rs} {p : Nat → Bool} (s : List Nat) (h1 : ∀ c, t (.str [c]) = .ok .sh (.bl true)) (h2 : ∀ c, f (.str [c]) = .ok .sh (.bl (p c))) : turns f t (s.map fun c => .str [c]) [] = .ok .fr (.lst (s.map fun c => .bl (p c))) := by
  have h : ∀ (s : List Nat) (acc : List PV), turns f t (s.map fun c => .str [c]) acc = .ok .fr (.lst (acc ++ s.map fun c => .bl (p c))) := by
    intro s
    induction s with
    | nil => intro acc; simp [turns]
    | cons c s ih => intro acc; simp [turns, h1, h2, Rs.cond, Rs.kp, ih]
  exact h s []
/-- read_number -/
def rdNum (s : List Nat) : Option Nat := if (decide (1 ≤ s.length) && decide (s.length ≤ 18) && s.all isFig) = true then (if (pre [48] s && !(s == [48])) = true then none else some (readN s)) else none
def oN : Option Nat → PV
  | some n => .int n
  | none => .non
/-- read_word -/
def rdWord (s : List Nat) : Option (List Nat) := if s = [45] then some [] else if (decide (0 < s.length) && s.all fun c => isFig c || isLet c) = true then some s else none
def oS : Option (List Nat) → PV
  | some n => .str n
  | none => .non
/-- read_pair -/
def rdPair (s : List Nat) : Option (Nat × Nat) := match splitOn 32 s with
  | [a, b] => match rdNum a, rdNum b with
    | some m, some n => some (m, n)
    | _, _ => none
  | _ => none
def oP : Option (Nat × Nat) → PV
  | some (m, n) => .tup [.int m, .int n]
  | none => .non
/-- is_not_above: of items that can be ordered -/
def notAb (rows : List PV) (i : Nat) : Bool := decide (0 < i) && match rows[i]?, rows[i - 1]? with
  | some x, some y => !ltv y x
  | _, _ => false
theorem atP_nat {α : Type} (xs : List α) (i : Nat) (h : i < xs.length) : atP xs (i : Int) = xs[i]? := by
  unfold atP ixI
  rw [if_pos (by omega), if_pos (by omega)]
  simp
/-- a walk that ends at the first bad one -/
theorem for_first {f : PV → Env → Fl} {cl : List Nat} {env : Env} {w : Nat → Bool} {x : Nat → Ex} {e1 : Nat → Env} : ∀ xs : List Nat, (∀ i ∈ xs, f (.int (i : Int)) env = if w i then .ex (x i) (e1 i) else .nx (e1 i)) → (∀ i ∈ xs, clr (e1 i) cl = env) →
    forT f cl (xs.map fun (i : Nat) => .int (i : Int)) env = match xs.find? w with
      | some i => .ex (x i) (clr (e1 i) [])
      | none => .nx env
  | [], _, _ => rfl
  | i :: xs, h, h2 => by
    have ih := for_first xs (fun j hj => h j (List.mem_cons_of_mem _ hj)) (fun j hj => h2 j (List.mem_cons_of_mem _ hj))
    simp only [List.map_cons, forT, h i List.mem_cons_self, List.find?_cons]
    cases w i with
    | true => rfl
    | false =>
      simp only [Bool.false_eq_true, if_false, turn_nx, h2 i List.mem_cons_self]
      exact ih
theorem rng_nat (n : Nat) : rngL 0 (n : Int) = (List.range n).map fun (i : Nat) => .int (i : Int) := by
  unfold rngL
  have e : ((n : Int) - 0).toNat = n := by omega
  rw [e]
  apply List.map_congr_left
  intro i _
  simp
theorem inR_nat {n : Nat} (h : n ≤ 8000000) : inR (n : Int) = true := by
  unfold inR
  simp only [Bool.and_eq_true, decide_eq_true_eq]
  omega
/-- refuse_first -/
def firstB (rows : List PV) : Option Nat := (List.range rows.length).find? (notAb rows)
theorem splitLen (c : Nat) : ∀ s : List Nat, (splitOn c s).length ≤ s.length + 1
  | [] => Nat.le_refl _
  | a :: r => by
    have ih := splitLen c r
    simp only [splitOn]
    split
    · simp only [List.length_cons]; omega
    · cases h : splitOn c r with
      | nil => simp
      | cons w ws => rw [h] at ih; simp only [List.length_cons] at ih ⊢; omega
theorem le_str (a b : List Nat) : cmpP .le (.str a) (.str b) = some (!ltv (.str b) (.str a)) := by simp [cmpP, plain, dep, alk, ltv]
theorem le_pair (a b c d : Int) : cmpP .le (.tup [.int a, .int b]) (.tup [.int c, .int d]) = some (!ltv (.tup [.int c, .int d]) (.tup [.int a, .int b])) := by simp [cmpP, plain, plains, dep, deps, alk, alks]
def onStr (rd : List Nat → PV) : PV → PV
  | .str t => rd t
  | _ => .non
theorem map_on (rd : List Nat → PV) (ls : List (List Nat)) : (ls.map PV.str).map (onStr rd) = ls.map rd := by rw [List.map_map]; rfl
/-- a text read: a list, or the number of a bad line -/
inductive Rd | yes (vs : List PV) | no (i : Nat)
def readD (vs : List PV) : Rd := match vs.findIdx? isNonP with
  | some i => .no i
  | none => match firstB vs with
    | some i => .no i
    | none => .yes vs
def readR (rd : List Nat → PV) (s : List Nat) : Rd := if s = [] then .yes [] else readD ((splitOn 10 s).map rd)
def rdPV : Rd → PV
  | .yes vs => .tup [.bl true, .lst vs]
  | .no i => .tup [.bl false, .int i]
def rdOf (w : Int) : List Nat → PV := if w = 0 then fun t => oS (rdWord t) else fun t => oP (rdPair t)
/-- data that _law_same compares -/
def fl1 : PV → Bool
  | .non => true | .int _ => true | .str _ => true | _ => false
theorem loop_true {f : PV → Env → Fl} {cl : List Nat} {env : Env} {e1 : Nat → Env} (n : Nat) (h : ∀ i < n, f (.int (i : Int)) env = .nx (e1 i)) (h2 : ∀ i < n, clr (e1 i) cl = env) : forT f cl (rngL 0 (n : Int)) env = .nx env := by
  rw [rng_nat, for_first (w := fun _ => false) (x := fun _ => ⟨0, none⟩) (e1 := e1) (List.range n) (fun i hi => by rw [h i (by simpa using hi)]; rfl) (fun i hi => h2 i (by simpa using hi))]
  have e : (List.range n).find? (fun _ => false) = none := by simp
  rw [e]
/-- the signs that a test takes -/
theorem flt_sgn {f t : PV → Rs} {p : Nat → Bool} (s : List Nat) (h1 : ∀ c, t (.str [c]) = .ok .sh (.bl (p c))) (h2 : ∀ c, f (.str [c]) = .ok .sh (.str [c])) : turns f t (s.map fun c => .str [c]) [] = .ok .fr (.lst ((s.filter p).map fun c => .str [c])) := by
  have h : ∀ (s : List Nat) (acc : List PV), turns f t (s.map fun c => .str [c]) acc = .ok .fr (.lst (acc ++ (s.filter p).map fun c => .str [c])) := by
    intro s
    induction s with
    | nil => intro acc; simp [turns]
    | cons c s ih => intro acc; cases hp : p c <;> simp [turns, h1, h2, hp, Rs.cond, Rs.kp, ih]
  exact h s []
theorem c_eq_nil (s : List Nat) : cmpP .eq (.lst (s.map fun c => .str [c])) (.lst []) = some s.isEmpty := by
  have hp : ∀ s : List Nat, plains (s.map fun c => .str [c]) = true := by intro s; induction s with
    | nil => rfl
    | cons c s ih => simp [plains, plain, ih]
  have hd : ∀ s : List Nat, deps (s.map fun c => .str [c]) = 0 := by intro s; induction s with
    | nil => rfl
    | cons c s ih => simp [deps, dep, ih]
  cases s <;> simp [cmpP, plain, plains, dep, deps, hp, hd, eqv, eqvs]
theorem abc_eq (c : Nat) : [97, 98, 99, 100, 101, 102, 103, 104, 105, 106, 107, 108, 109, 110, 111, 112, 113, 114, 115, 116, 117, 118, 119, 120, 121, 122, 48, 49, 50, 51, 52, 53, 54, 55, 56, 57].contains c = (isFig c || isLet c) := by
  rw [← fig_eq, ← let_eq, Bool.eq_iff_iff]
  simp
  omega
theorem flt_all (p : Nat → Bool) : ∀ s : List Nat, (s.filter fun c => !p c).isEmpty = s.all p
  | [] => rfl
  | c :: s => by
    have ih := flt_all p s
    cases h : p c <;> simp [h, ih]
/-- the numbers of some texts -/
def numsOf : List (List Nat) → Option (List Nat)
  | [] => some []
  | s :: ss => match rdNum s, numsOf ss with
    | some n, some ns => some (n :: ns)
    | _, _ => none
theorem for_nums {f : PV → Env → Fl} {cl : List Nat} {E : List PV → Env} {E1 : List PV → List Nat → Env} (h : ∀ s acc, acc.length < LL → f (.str s) (E acc) = match rdNum s with | none => .rt .sh .non | some n => .nx (E1 (acc ++ [.int n]) s)) (hc : ∀ acc s, clr (E1 acc s) cl = E acc) :
    ∀ (ss : List (List Nat)) (acc : List PV), acc.length + ss.length ≤ LL → forT f cl (ss.map .str) (E acc) = match numsOf ss with | none => .rt .sh .non | some ns => .nx (E (acc ++ ns.map fun (n : Nat) => .int n))
  | [], acc, _ => by simp [forT, numsOf]
  | s :: ss, acc, hl => by
    simp only [List.length_cons] at hl
    have ih := fun a => for_nums h hc ss (acc ++ [a]) (by simp; omega)
    simp only [List.map_cons, forT, h s acc (by omega), numsOf]
    cases rdNum s with
    | none => rfl
    | some n =>
      simp only [turn_nx, hc, ih]
      cases numsOf ss <;> simp
theorem bad_num (s : List Nat) : rdNum s = if s = [] ∨ 18 < s.length ∨ s.all isFig = false ∨ (s[0]? = some 48 ∧ s ≠ [48]) then none else some (readN s) := by
  unfold rdNum
  cases s with
  | nil => rfl
  | cons c r =>
    simp only [List.getElem?_cons_zero, pre, Option.some.injEq]
    by_cases h2 : (c :: r).length ≤ 18
    · cases h3 : (c :: r).all isFig
      · simp
      · have h2' : ¬ 18 < (c :: r).length := by omega
        have h1 : 1 ≤ (c :: r).length := by simp
        simp only [h1, h2, decide_true, Bool.true_and, if_true, Bool.and_true]
        by_cases h4 : c = 48
        · subst h4
          cases r with
          | nil => simp
          | cons a b => simp
        · have h4' : (48 == c) = false := by simpa using fun h => h4 h.symm
          simp [h4, h4']
          simp at h2
          omega
    · have h2' : 18 < (c :: r).length := by omega
      have e : decide ((c :: r).length ≤ 18) = false := decide_eq_false h2
      rw [e, if_pos (Or.inr (Or.inl h2'))]
      simp
theorem atP_0 {α : Type} (a : α) (r : List α) : atP (a :: r) 0 = some a := by rw [show (0 : Int) = ((0 : Nat) : Int) from rfl, atP_nat _ 0 (by simp)]; rfl
theorem atP_1 {α : Type} (a b : α) (r : List α) : atP (a :: b :: r) 1 = some b := by rw [show (1 : Int) = ((1 : Nat) : Int) from rfl, atP_nat _ 1 (by simp)]; rfl
theorem numsOf_len : ∀ {ss : List (List Nat)} {ns : List Nat}, numsOf ss = some ns → ns.length = ss.length
  | [], ns, h => by cases h; rfl
  | s :: ss, ns, h => by
    simp only [numsOf] at h
    cases h1 : rdNum s with
    | none => rw [h1] at h; cases h
    | some n =>
      cases h2 : numsOf ss with
      | none => rw [h1, h2] at h; cases h
      | some ms =>
        rw [h1, h2] at h
        cases h
        simp [numsOf_len h2]
theorem rdPair_nums (s : List Nat) : rdPair s = match numsOf (splitOn 32 s) with
    | some [m, n] => some (m, n)
    | _ => none := by
  unfold rdPair
  match hs : splitOn 32 s with
  | [] => rfl
  | [a] => simp only [numsOf]; cases rdNum a <;> rfl
  | [a, b] => simp only [numsOf]; cases rdNum a <;> cases rdNum b <;> rfl
  | a :: b :: c :: r =>
    simp only
    cases h : numsOf (a :: b :: c :: r) with
    | none => rfl
    | some ns =>
      have hl := numsOf_len h
      match ns, hl with
      | x :: y :: z :: t, _ => rfl
theorem for_all' {f : PV → Env → Fl} {cl : List Nat} {E E1 : Nat → Env} {g : Nat → PV} : ∀ (n k : Nat), (∀ j, k ≤ j → j < k + n → f (g j) (E j) = .nx (E1 j) ∧ clr (E1 j) cl = E (j + 1)) → forT f cl ((List.range' k n).map g) (E k) = .nx (E (k + n))
  | 0, k, _ => rfl
  | n + 1, k, h => by
    have ih := for_all' (g := g) n (k + 1) (fun j h1 h2 => h j (by omega) (by omega))
    obtain ⟨h1, h2⟩ := h k (Nat.le_refl _) (by omega)
    simp only [List.range'_succ, List.map_cons, forT, h1, turn_nx, h2, ih]
    congr 2
    omega
theorem for_all {f : PV → Env → Fl} {cl : List Nat} {E E1 : Nat → Env} {g : Nat → PV} {e0 : Env} (n : Nat) (he : e0 = E 0) (h : ∀ j, j < n → f (g j) (E j) = .nx (E1 j) ∧ clr (E1 j) cl = E (j + 1)) : forT f cl ((List.range n).map g) e0 = .nx (E n) := by
  rw [he, List.range_eq_range', for_all' n 0 (fun j _ h2 => h j (by omega)), Nat.zero_add]
theorem for_stop' {f : PV → Env → Fl} {cl : List Nat} {E E1 : Nat → Env} {g : Nat → PV} {m : Md} {v : PV} {i : Nat} : ∀ (n k : Nat), k ≤ i → i < k + n → (∀ j, k ≤ j → j < i → f (g j) (E j) = .nx (E1 j) ∧ clr (E1 j) cl = E (j + 1)) → f (g i) (E i) = .rt m v → forT f cl ((List.range' k n).map g) (E k) = .rt m v
  | 0, k, h1, h2, _, _ => by omega
  | n + 1, k, h1, h2, h, hs => by
    by_cases e : k = i
    · subst e
      simp only [List.range'_succ, List.map_cons, forT, hs, turn_rt]
    · have ih := for_stop' (g := g) n (k + 1) (by omega) (by omega) (fun j h1 h2 => h j (by omega) (by omega)) hs
      obtain ⟨h1, h2⟩ := h k (Nat.le_refl _) (by omega)
      simp only [List.range'_succ, List.map_cons, forT, h1, turn_nx, h2, ih]
theorem for_stop {f : PV → Env → Fl} {cl : List Nat} {E E1 : Nat → Env} {g : Nat → PV} {e0 : Env} {m : Md} {v : PV} (n i : Nat) (he : e0 = E 0) (hi : i < n) (h : ∀ j, j < i → f (g j) (E j) = .nx (E1 j) ∧ clr (E1 j) cl = E (j + 1)) (hs : f (g i) (E i) = .rt m v) : forT f cl ((List.range n).map g) e0 = .rt m v := by
  rw [he, List.range_eq_range', for_stop' n 0 (by omega) (by omega) (fun j _ h2 => h j (by omega)) hs]
theorem splitOn_mem (c : Nat) : ∀ (s t : List Nat), t ∈ splitOn c s → t.length ≤ s.length
  | [], t, h => by simp [splitOn] at h; subst h; simp
  | a :: r, t, h => by
    have ih := splitOn_mem c r
    simp only [splitOn] at h
    split at h
    · rcases List.mem_cons.mp h with rfl | h
      · simp
      · have := ih t h; simp; omega
    · cases hr : splitOn c r with
      | nil => rw [hr] at h; simp at h; subst h; simp
      | cons w ws =>
        rw [hr] at h ih
        rcases List.mem_cons.mp h with rfl | h
        · have := ih w List.mem_cons_self; simp; omega
        · have := ih t (List.mem_cons_of_mem _ h); simp; omega
theorem cmp_rd (w : Int) (t u : List Nat) (nx : isNonP (rdOf w t) = false) (ny : isNonP (rdOf w u) = false) : cmpP .le (rdOf w t) (rdOf w u) = some (!ltv (rdOf w u) (rdOf w t)) := by
  unfold rdOf at nx ny ⊢
  by_cases hw : w = 0
  · simp only [hw, if_true] at nx ny ⊢
    cases h1 : rdWord t with
    | none => rw [h1] at nx; cases nx
    | some a => cases h2 : rdWord u with
      | none => rw [h2] at ny; cases ny
      | some b => exact le_str a b
  · simp only [hw, if_false] at nx ny ⊢
    cases h1 : rdPair t with
    | none => rw [h1] at nx; cases nx
    | some a => cases h2 : rdPair u with
      | none => rw [h2] at ny; cases ny
      | some b => exact le_pair _ _ _ _
theorem rng_1 (n : Nat) : rngL 1 (n : Int) = (List.range (n - 1)).map fun (i : Nat) => .int ((i + 1 : Nat) : Int) := by
  unfold rngL
  have e : ((n : Int) - 1).toNat = n - 1 := by omega
  rw [e]
  apply List.map_congr_left
  intro i _
  congr 1
  omega
def slI : Nat → Sl
  | 0 => .un
  | i + 1 => .sh (.int (i : Int))
def slJ (n : Nat) : Nat → Sl
  | 0 => slI n
  | i + 1 => .sh (.int ((i + 1 : Nat) : Int))
theorem inR_1 : inR 1 = true := by decide
/-- an item as it is read -/
def itemP : PV → Prop
  | .str _ => True
  | .tup [.int _, .int _] => True
  | _ => False
theorem item_rd (w : Int) (t : List Nat) (h : isNonP (rdOf w t) = false) : itemP (rdOf w t) := by
  unfold rdOf at h ⊢
  by_cases hw : w = 0
  · simp only [hw, if_true] at h ⊢
    cases h1 : rdWord t with
    | none => rw [h1] at h; cases h
    | some a => trivial
  · simp only [hw, if_false] at h ⊢
    cases h1 : rdPair t with
    | none => rw [h1] at h; cases h
    | some a => trivial
theorem read_items (w : Int) (s : List Nat) (hs : s.length ≤ 7000000) (vs : List PV) (h : readR (rdOf w) s = .yes vs) : vs.length ≤ 8000000 ∧ ∀ x ∈ vs, itemP x := by
  unfold readR at h
  split at h
  · cases h
    exact ⟨by simp, fun x hx => by cases hx⟩
  · unfold readD at h
    split at h
    · cases h
    · split at h
      · cases h
      · cases h
        rename_i hn _ _
        have hall : ∀ x ∈ splitOn 10 s, isNonP (rdOf w x) = false := by simpa [List.findIdx?_eq_none_iff] using hn
        refine ⟨?_, fun x hx => ?_⟩
        · have := splitLen 10 s; simp; omega
        · obtain ⟨t, ht, rfl⟩ := List.mem_map.mp hx
          exact item_rd w t (hall t ht)
def cellN (a c : Int) : Nat → Int
  | 0 => c
  | k + 1 => if 1000000000000000000 ≤ cellN a c k then cellN a c k / 1009 else cellN a c k
def mixN (a c : Int) (k : Nat) : Int := (cellN a c k * 48271 + ((k : Int) + 1) * 69621 + a * 4001) % 2147483647
def miyN (a c : Int) (k : Nat) : Int := (mixN a c k * mixN a c k + 16807 * ((k : Int) + 3)) % 2147483629
def numN (a c : Int) (k : Nat) : Int := if 1000000000000000000 ≤ cellN a c k then cellN a c k % 1009 else miyN a c k / 7 % 1009
def lawN (a c : Int) (n : Nat) : List Int := (List.range n).map (numN a c)
theorem numN_lt (a c : Int) (k : Nat) : 0 ≤ numN a c k ∧ numN a c k < 1009 := by unfold numN; split <;> omega
theorem mixN_sm (a c : Int) (k : Nat) : small (mixN a c k) = true := by
  have h1 : 0 ≤ mixN a c k ∧ mixN a c k < 2147483647 := by unfold mixN; omega
  unfold small
  simp only [Bool.and_eq_true, decide_eq_true_eq]
  omega
def firC (ns : List Int) (a : Nat) : Int := let c := ns.getD a (1000003 * ((a : Int) + 1)); if c < 0 then 1 - 2 * c else c
theorem mulLx {i j : Int} (h : small i = true) : binP .mul (.int i) (.int j) = .ok .sh (.int (i * j)) := by
  show (if _ then _ else _) = _
  rw [h]
  rfl
theorem mulRx {i j : Int} (h : small j = true) : binP .mul (.int i) (.int j) = .ok .sh (.int (i * j)) := by
  show (if _ then _ else _) = _
  rw [h, Bool.or_true]
  rfl
theorem addx {i j : Int} : binP .add (.int i) (.int j) = .ok .sh (.int (i + j)) := rfl
theorem subx {i j : Int} : binP .sub (.int i) (.int j) = .ok .sh (.int (i - j)) := rfl
theorem modx {i j : Int} (h : (decide (0 < j)) = true) : binP .mod (.int i) (.int j) = .ok .sh (.int (i % j)) := by
  show (if _ then _ else _) = _
  rw [if_pos (by simpa using h)]
theorem divx {i j : Int} (h : (0 < j && j < 1073741824 : Bool) = true) : binP .fdiv (.int i) (.int j) = .ok .sh (.int (i / j)) := by
  show (if _ then _ else _) = _
  rw [h]
  rfl
theorem p18 : binP .pow (.int 10) (.int 18) = .ok .sh (.int 1000000000000000000) := by simp [binP, small]

/-! ### more -/
theorem slc_str {s : List Nat} {lo hi} : slcP (.str s) lo hi = .ok .sh (.str (cut s lo hi)) := rfl
theorem slc_lst {s : List PV} {lo hi} : slcP (.lst s) lo hi = .ok .fr (.lst (cut s lo hi)) := rfl
theorem slc_tup {s : List PV} {lo hi} : slcP (.tup s) lo hi = .ok .sh (.tup (cut s lo hi)) := rfl
theorem intK_int {i : Int} {k : Option Int → Rs} : intK k (.int i) = k (some i) := rfl
theorem neg_int {i : Int} : negP (.int i) = .ok .sh (.int (-i)) := rfl
theorem sub_lst {xs : List PV} {i : Int} : subP (.lst xs) (.int i) = atP xs i := rfl
theorem sub_tup {xs : List PV} {i : Int} : subP (.tup xs) (.int i) = atP xs i := rfl
theorem sub_str {s : List Nat} {i : Int} : subP (.str s) (.int i) = (atP s i).map fun c => .str [c] := rfl
theorem addS {a b : List Nat} (h : a.length + b.length ≤ SL) : binP .add (.str a) (.str b) = .ok .sh (.str (a ++ b)) := if_pos h
theorem addL {a b : List PV} (h : a.length + b.length ≤ LL) : binP .add (.lst a) (.lst b) = .ok .fr (.lst (a ++ b)) := if_pos h
theorem atP_N {α : Type} (a : α) (r : List α) (n : Nat) : atP (a :: r) (((n + 1 : Nat)) : Int) = atP r (n : Int) := by
  by_cases h : n < r.length
  · rw [atP_nat _ _ (by simpa using h), atP_nat _ _ h]; rfl
  · have e1 : atP r (n : Int) = none := by
      unfold atP ixI
      rw [if_pos (by omega), if_neg (by omega)]
      rfl
    have e2 : atP (a :: r) (((n + 1 : Nat)) : Int) = none := by
      unfold atP ixI
      rw [if_pos (by omega), if_neg (by simp only [List.length_cons]; omega)]
      rfl
    rw [e1, e2]
theorem atP_2 {α : Type} (a b c : α) (r : List α) : atP (a :: b :: c :: r) 2 = some c := by rw [show (2 : Int) = ((2 : Nat) : Int) from rfl, atP_nat _ 2 (by simp)]; rfl
theorem atP_3 {α : Type} (a b c d : α) (r : List α) : atP (a :: b :: c :: d :: r) 3 = some d := by rw [show (3 : Int) = ((3 : Nat) : Int) from rfl, atP_nat _ 3 (by simp)]; rfl
theorem atP_4 {α : Type} (a b c d e : α) (r : List α) : atP (a :: b :: c :: d :: e :: r) 4 = some e := by rw [show (4 : Int) = ((4 : Nat) : Int) from rfl, atP_nat _ 4 (by simp)]; rfl
theorem atP_5 {α : Type} (a b c d e f : α) (r : List α) : atP (a :: b :: c :: d :: e :: f :: r) 5 = some f := by rw [show (5 : Int) = ((5 : Nat) : Int) from rfl, atP_nat _ 5 (by simp)]; rfl
/-- an item at a rest -/
theorem atP_lt {α : Type} (xs : List α) (i : Int) (h0 : 0 ≤ i) (h : i < xs.length) : ∃ x, x ∈ xs ∧ atP xs i = some x := by
  obtain ⟨n, rfl⟩ := Int.eq_ofNat_of_zero_le h0
  have hn : n < xs.length := by simpa using h
  exact ⟨xs[n], List.getElem_mem hn, by rw [atP_nat _ _ hn, List.getElem?_eq_getElem hn]⟩
theorem emod_nat (i : Int) (n : Nat) (h : 0 < n) : ∃ k : Nat, k < n ∧ i % (n : Int) = (k : Int) := by
  have h1 := Int.emod_nonneg i (show (n : Int) ≠ 0 by omega)
  have h2 := Int.emod_lt_of_pos i (show (0 : Int) < (n : Int) by omega)
  exact ⟨(i % (n : Int)).toNat, by omega, by omega⟩
theorem cut_len {α : Type} (xs : List α) (lo hi : Option Int) : (cut xs lo hi).length ≤ xs.length := by
  unfold cut
  simp only [List.length_take, List.length_drop]
  omega
theorem cut_map {α β : Type} (f : α → β) (xs : List α) (lo hi : Option Int) : cut (xs.map f) lo hi = (cut xs lo hi).map f := by
  unfold cut
  simp
/-- the weight of some texts -/
def lw (ys : List (List Nat)) : Nat := (ys.map fun y => y.length + 1).sum
theorem lw_nil : lw [] = 0 := rfl
theorem lw_cons (y ys) : lw (y :: ys) = y.length + 1 + lw ys := by simp [lw]
theorem lw_app (ys zs) : lw (ys ++ zs) = lw ys + lw zs := by simp [lw]
theorem lw_len (ys) : ys.length ≤ lw ys := by
  induction ys with
  | nil => simp
  | cons y ys ih => rw [lw_cons, List.length_cons]; omega
theorem lw_split (c : Nat) : ∀ s : List Nat, lw (splitOn c s) = s.length + 1
  | [] => rfl
  | a :: r => by
    have ih := lw_split c r
    simp only [splitOn]
    split
    · rw [lw_cons, ih]; simp; omega
    · cases h : splitOn c r with
      | nil => rw [h] at ih; simp [lw] at ih
      | cons w ws => rw [h, lw_cons] at ih; simp only [lw_cons, List.length_cons]; omega
theorem splitNe (c : Nat) (s : List Nat) : 0 < (splitOn c s).length := by
  cases h : splitOn c s with
  | nil => have := lw_split c s; rw [h] at this; simp [lw] at this
  | cons w ws => simp
theorem lw_td (ys : List (List Nat)) (k : Nat) : lw (ys.take k) + lw (ys.drop k) = lw ys := by
  rw [← lw_app, List.take_append_drop]
theorem lw_cut (ys : List (List Nat)) (lo hi : Option Int) : lw (cut ys lo hi) ≤ lw ys := by
  unfold cut
  have h1 := lw_td ys (clp ys.length 0 lo)
  have h2 := lw_td (ys.drop (clp ys.length 0 lo)) (clp ys.length ys.length hi - clp ys.length 0 lo)
  omega
theorem lw_mem {y : List Nat} {ys : List (List Nat)} (h : y ∈ ys) : y.length + 1 ≤ lw ys := by
  induction ys with
  | nil => cases h
  | cons z zs ih =>
    rw [lw_cons]
    rcases List.mem_cons.mp h with rfl | h
    · omega
    · have := ih h; omega
theorem lw_set (ys : List (List Nat)) (k : Nat) (y : List Nat) : lw (ys.set k y) ≤ lw ys + y.length + 1 := by
  induction ys generalizing k with
  | nil => simp [lw]
  | cons z zs ih =>
    cases k with
    | zero => simp only [List.set_cons_zero, lw_cons]; omega
    | succ k => simp only [List.set_cons_succ, lw_cons]; have := ih k; omega
theorem joinS_len (c : Nat) : ∀ ys : List (List Nat), (joinS [c] ys).length ≤ lw ys
  | [] => by simp [joinS]
  | [x] => by simp [joinS, lw_cons]; omega
  | x :: y :: r => by
    have ih := joinS_len c (y :: r)
    rw [lw_cons]
    simp only [joinS, List.length_append, List.length_cons, List.length_nil]
    omega
theorem joinS0_len : ∀ ys : List (List Nat), (joinS [] ys).length ≤ lw ys
  | [] => by simp [joinS]
  | [x] => by simp [joinS, lw_cons]; omega
  | x :: y :: r => by
    have ih := joinS0_len (y :: r)
    rw [lw_cons]
    simp only [joinS, List.length_append, List.length_nil]
    omega
theorem strs_map : ∀ ys : List (List Nat), strsOf (ys.map .str) = some ys
  | [] => rfl
  | y :: ys => by simp [strsOf, strs_map ys]
theorem lw_sum (ys : List (List Nat)) : (ys.map List.length).sum + ys.length = lw ys := by
  induction ys with
  | nil => rfl
  | cons y ys ih => rw [lw_cons, List.map_cons, List.sum_cons, List.length_cons]; omega
theorem m_join (c : Nat) (ys : List (List Nat)) (h : lw ys ≤ SL) : mthP .join (.str [c]) [.lst (ys.map .str)] = .ok .sh (.str (joinS [c] ys)) := by
  show (match strsOf (ys.map .str) with | some ys => (if (ys.map (List.length)).sum + ys.length * [c].length ≤ SL then Rs.ok .sh (.str (joinS [c] ys)) else .bad) | none => .bad) = _
  rw [strs_map]
  exact if_pos (by have := lw_sum ys; simp only [List.length_cons, List.length_nil]; omega)
theorem m_join0 (ys : List (List Nat)) (h : lw ys ≤ SL) : mthP .join (.str []) [.lst (ys.map .str)] = .ok .sh (.str (joinS [] ys)) := by
  show (match strsOf (ys.map .str) with | some ys => (if (ys.map (List.length)).sum + ys.length * ([] : List Nat).length ≤ SL then Rs.ok .sh (.str (joinS [] ys)) else .bad) | none => .bad) = _
  rw [strs_map]
  exact if_pos (by have := lw_sum ys; simp only [List.length_nil]; omega)
theorem split_none (c : Nat) : ∀ x : List Nat, c ∉ x → splitOn c x = [x]
  | [], _ => rfl
  | a :: r, h => by
    have ih := split_none c r (fun h' => h (List.mem_cons_of_mem _ h'))
    simp only [splitOn, ih]
    rw [if_neg (fun e => h (by rw [e]; exact List.mem_cons_self))]
theorem split_app (c : Nat) (t : List Nat) : ∀ x : List Nat, c ∉ x → splitOn c (x ++ c :: t) = x :: splitOn c t
  | [], _ => by simp [splitOn]
  | a :: r, h => by
    have ih := split_app c t r (fun h' => h (List.mem_cons_of_mem _ h'))
    simp only [List.cons_append, splitOn, ih]
    rw [if_neg (fun e => h (by rw [e]; exact List.mem_cons_self))]
theorem split_join (c : Nat) : ∀ ys : List (List Nat), ys ≠ [] → (∀ y ∈ ys, c ∉ y) → splitOn c (joinS [c] ys) = ys
  | [], h, _ => absurd rfl h
  | [x], _, h => split_none c x (h x List.mem_cons_self)
  | x :: y :: r, _, h => by
    have ih := split_join c (y :: r) (by simp) (fun z hz => h z (List.mem_cons_of_mem _ hz))
    have e : joinS [c] (x :: y :: r) = x ++ c :: joinS [c] (y :: r) := by simp [joinS]
    rw [e, split_app c _ x (h x List.mem_cons_self), ih]
theorem rep1_len (s y z : List Nat) : (rep1 s y z).length ≤ s.length + z.length := by
  unfold rep1 rep1T
  generalize hx : (⟨s.toArray⟩ : Str) = x
  generalize hy : (⟨y.toArray⟩ : Str) = y'
  generalize hz : (⟨z.toArray⟩ : Str) = z'
  have ex : x.cps.size = s.length := by rw [← hx]; simp
  have ez : z'.cps.size = z.length := by rw [← hz]; simp
  have h1 := PySem.StrLaws.occ_length_le x y' 0 x.length 1
  match ho : Builtin.Str.occurrences x y' 0 x.length 1 with
  | [] => simp [ex]
  | [i] =>
    split
    · simp [ex]
    · have hl : x.length = x.cps.size := rfl
      simp [Builtin.Str.glued, Builtin.Str.partsBetween, Builtin.Str.strSub, hl, ex, ez]
      omega
  | a :: b :: r => rw [ho] at h1; simp at h1
/-! ### figures of numbers -/

theorem numD_small {n : Nat} (h : n < 10) : numD n = [48 + n] := by
  have h2 : ∀ n : Nat, n < 10 → (Nat.digitChar n).toNat = 48 + n := by decide
  unfold numD
  rw [Nat.toDigits_of_lt_base h]
  simp [h2 n h]
theorem numD_step {n : Nat} (h : 10 ≤ n) : numD n = numD (n / 10) ++ [48 + n % 10] := by
  have h2 : ∀ n : Nat, n < 10 → (Nat.digitChar n).toNat = 48 + n := by decide
  unfold numD
  rw [Nat.toDigits_of_base_le (by decide) h, List.map_append]
  simp [h2 (n % 10) (Nat.mod_lt n (by decide))]
theorem readN_app (s : List Nat) (c : Nat) : readN (s ++ [c]) = readN s * 10 + (c - 48) := by simp [readN]
theorem readN_num (n : Nat) : readN (numD n) = n := by
  induction n using Nat.strongRecOn with
  | _ n ih =>
    by_cases h : n < 10
    · rw [numD_small h]; simp [readN]
    · rw [numD_step (by omega), readN_app, ih (n / 10) (by omega)]; omega
theorem figs_num (n : Nat) : (numD n).all isFig = true := by
  induction n using Nat.strongRecOn with
  | _ n ih =>
    by_cases h : n < 10
    · rw [numD_small h]; simp [isFig]; omega
    · rw [numD_step (by omega), List.all_append, ih (n / 10) (by omega)]; simp [isFig]; omega
theorem num_ne (n : Nat) : numD n ≠ [] := by
  by_cases h : n < 10
  · rw [numD_small h]; simp
  · rw [numD_step (by omega)]; simp
theorem len_num (k n : Nat) (hk : 1 ≤ k) (h : n < 10 ^ k) : (numD n).length ≤ k := by
  induction k generalizing n with
  | zero => omega
  | succ k ih =>
    by_cases h1 : n < 10
    · rw [numD_small h1]; simp
    · rw [numD_step (by omega), List.length_append, List.length_singleton]
      have hk2 : 1 ≤ k := by
        rcases k with _ | k
        · simp at h; omega
        · omega
      have := ih (n / 10) hk2 (by rw [Nat.pow_succ] at h; omega)
      omega
/-- no zeros ahead -/
theorem head_num (n : Nat) (h : 0 < n) : (numD n)[0]? ≠ some 48 := by
  induction n using Nat.strongRecOn with
  | _ n ih =>
    by_cases h1 : n < 10
    · rw [numD_small h1]; simp; omega
    · rw [numD_step (by omega)]
      have := ih (n / 10) (by omega) (by omega)
      have hne := num_ne (n / 10)
      cases e : numD (n / 10) with
      | nil => exact absurd e hne
      | cons a r => rw [e] at this; simpa using this
theorem rdNum_num (n : Nat) (h : n < 10 ^ 18) : rdNum (numD n) = some n := by
  rw [bad_num, if_neg, readN_num]
  rintro (h1 | h1 | h1 | ⟨h1, h2⟩)
  · exact num_ne n h1
  · have := len_num 18 n (by decide) h; omega
  · rw [figs_num] at h1; cases h1
  · rcases Nat.eq_zero_or_pos n with rfl | hp
    · exact h2 (by rw [numD_small (by decide)])
    · exact head_num n hp h1
theorem fig_not {s : List Nat} (h : s.all isFig = true) {c : Nat} (hc : isFig c = false) : c ∉ s := by
  intro h2
  rw [List.all_eq_true] at h
  rw [h c h2] at hc
  cases hc
theorem num_not (n : Nat) {c : Nat} (hc : isFig c = false) : c ∉ numD n := fig_not (figs_num n) hc
end EV
set_option Elab.async false
set_option linter.all false
set_option maxRecDepth 100000
set_option maxHeartbeats 2000000
/-! PL3: expressions that give some text, some texts, of a bounded length. -/
namespace EV
open PySem
def isTxt (r : Rs) (n : Nat) : Prop := ∃ t : List Nat, r = .ok .sh (.str t) ∧ t.length ≤ n
def isTxs (r : Rs) (n : Nat) : Prop := ∃ m ys, r = .ok m (.lst (ys.map .str)) ∧ lw ys ≤ n
def isTxl (r : Rl) (k n : Nat) : Prop := ∃ ys : List (List Nat), r = .ok true (ys.map .str) ∧ ys.length = k ∧ ∀ y ∈ ys, y.length ≤ n
/-- a slice's part is known -/
def isPt (X : EC) (lo : IRs) (env : Env) : Prop := ∃ o, ∀ k, evP X lo env k = k o
section
variable {X : EC} {env : Env} {n m k : Nat} {a b e : IR} {es lo hi : IRs}
theorem isTxt.le {r : Rs} (h : isTxt r n) (hl : n ≤ m) : isTxt r m := by
  obtain ⟨t, h1, h2⟩ := h
  exact ⟨t, h1, by omega⟩
theorem isTxs.le {r : Rs} (h : isTxs r n) (hl : n ≤ m) : isTxs r m := by
  obtain ⟨q, t, h1, h2⟩ := h
  exact ⟨q, t, h1, by omega⟩
theorem txt_cst (s : List Nat) (h : s.length ≤ n) : isTxt (ev X false (.cst (.str s)) env) n := ⟨s, rfl, h⟩
theorem txt_loc {i : Nat} (s : List Nat) (h1 : env[i]? = some (.sh (.str s))) (h : s.length ≤ n) : isTxt (ev X false (.loc i) env) n := by
  refine ⟨s, ?_, h⟩
  simp -implicitDefEqProofs only [execs, exec, ev, evs, evC, evP, execM, List.getElem?_cons_zero, List.getElem?_cons_succ, sl_sh, sl_ow, sl_sht, sl_owt, fin_f, fin_t, cons_sh, cons_fr, cons_bo, cons_ex, cons_ok_ex, lbind_ok, lbind_ex, bind_ok, bind_ex, cond_b, kp_sh, kp_fr, kp_ex, tru_bl, tru_ex, tru_lst, tru_str, ofB_some', ofV_some, ofO_some, nox_ok, chnR_eq c_le_int, cmpR_eq c_le_int, cmpR_eq c_lt_int, cmpR_eq c_ge_int, cmpR_eq c_gt_int, cmpR_eq c_eq_int, cmpR_eq c_ne_int, cmpR_eq c_eq_str, cmpR_eq c_ne_str, cmpR_eq c_in_sgn, cmpR_eq c_nin_sgn, cmpR_eq c_is_non, cmpR_eq c_isnot_non, b_len_lst, b_len_tup, b_len_cdt, b_len_str, b_all, b_int_int, b_int_bl, b_int_str, b_str_int, b_str_str, b_isinst, b_list_lst, b_list_dct, b_tuple_lst, strK_str, m_sw, fk_sh, fk_fr, fk_ex, fl_ok, fl_ex, lfl_ok, lfl_ex, fc_b, fc_ex, seq_nx, seq_rt, seq_ex, seq_bk, seq_ct, ofFl_rt, ofFl_nx, ofFl_ex, turn_nx, turn_ct, turn_bk, turn_rt, turn_ex, it_lst, it_tup, it_str, it_rng1, it_rng2, it_enum, cmpR_eq c_ne_bl, cmpR_eq c_eq_bl, List.length_cons, List.length_nil, Nat.zero_add, Nat.reduceAdd, Nat.reduceLeDiff, BEq.rfl, clr, slots, Option.map, tgB, List.set_cons_zero, List.set_cons_succ, calR, toSl, Bool.false_eq_true, if_false, if_true, rtlR, frzL, frz1, List.foldl_cons, List.foldl_nil, owOf, ownK, lstK, appP, owS, raiR, tupR, lstR, Bool.not_true, Bool.not_false, nobF, ofF, ty_int0, ty_int1, ty_int2, ty_int3, ty_int4, is23_int, ty_str0, ty_str1, ty_str2, ty_str3, ty_str4, is23_str, ty_lst0, ty_lst1, ty_lst2, ty_lst3, ty_lst4, is23_lst, ty_tup0, ty_tup1, ty_tup2, ty_tup3, ty_tup4, is23_tup, ty_bl0, ty_bl1, ty_bl2, ty_bl3, ty_bl4, is23_bl, ty_non0, ty_non1, ty_non2, ty_non3, ty_non4, is23_non, h1]
theorem txt_mul (c j : Nat) (h1 : 2 ≤ j) (h2 : j ≤ 1000) (h : j ≤ n) : isTxt (ev X false (.bin .mul (.cst (.str [c])) (.cst (.int (j : Int)))) env) n := by
  refine ⟨(List.replicate j [c]).flatten, ?_, ?_⟩
  · simp -implicitDefEqProofs only [execs, exec, ev, evs, evC, evP, execM, List.getElem?_cons_zero, List.getElem?_cons_succ, sl_sh, sl_ow, sl_sht, sl_owt, fin_f, fin_t, cons_sh, cons_fr, cons_bo, cons_ex, cons_ok_ex, lbind_ok, lbind_ex, bind_ok, bind_ex, cond_b, kp_sh, kp_fr, kp_ex, tru_bl, tru_ex, tru_lst, tru_str, ofB_some', ofV_some, ofO_some, nox_ok, chnR_eq c_le_int, cmpR_eq c_le_int, cmpR_eq c_lt_int, cmpR_eq c_ge_int, cmpR_eq c_gt_int, cmpR_eq c_eq_int, cmpR_eq c_ne_int, cmpR_eq c_eq_str, cmpR_eq c_ne_str, cmpR_eq c_in_sgn, cmpR_eq c_nin_sgn, cmpR_eq c_is_non, cmpR_eq c_isnot_non, b_len_lst, b_len_tup, b_len_cdt, b_len_str, b_all, b_int_int, b_int_bl, b_int_str, b_str_int, b_str_str, b_isinst, b_list_lst, b_list_dct, b_tuple_lst, strK_str, m_sw, fk_sh, fk_fr, fk_ex, fl_ok, fl_ex, lfl_ok, lfl_ex, fc_b, fc_ex, seq_nx, seq_rt, seq_ex, seq_bk, seq_ct, ofFl_rt, ofFl_nx, ofFl_ex, turn_nx, turn_ct, turn_bk, turn_rt, turn_ex, it_lst, it_tup, it_str, it_rng1, it_rng2, it_enum, cmpR_eq c_ne_bl, cmpR_eq c_eq_bl, List.length_cons, List.length_nil, Nat.zero_add, Nat.reduceAdd, Nat.reduceLeDiff, BEq.rfl, clr, slots, Option.map, tgB, List.set_cons_zero, List.set_cons_succ, calR, toSl, Bool.false_eq_true, if_false, if_true, rtlR, frzL, frz1, List.foldl_cons, List.foldl_nil, owOf, ownK, lstK, appP, owS, raiR, tupR, lstR, Bool.not_true, Bool.not_false, nobF, ofF, ty_int0, ty_int1, ty_int2, ty_int3, ty_int4, is23_int, ty_str0, ty_str1, ty_str2, ty_str3, ty_str4, is23_str, ty_lst0, ty_lst1, ty_lst2, ty_lst3, ty_lst4, is23_lst, ty_tup0, ty_tup1, ty_tup2, ty_tup3, ty_tup4, is23_tup, ty_bl0, ty_bl1, ty_bl2, ty_bl3, ty_bl4, is23_bl, ty_non0, ty_non1, ty_non2, ty_non3, ty_non4, is23_non, binP]
    have e1 : ((j : Int)).toNat = j := by omega
    rw [e1, if_pos]
    simp -implicitDefEqProofs only [Bool.and_eq_true, decide_eq_true_eq, List.length_cons, List.length_nil]
    have : (SL : Nat) = 16000000 := rfl
    omega
  · simpa using h
theorem txt_add (ha : isTxt (ev X false a env) n) (hb : isTxt (ev X false b env) m) (hl : n + m ≤ SL) (hk : n + m ≤ k) : isTxt (ev X false (.bin .add a b) env) k := by
  obtain ⟨s, h1, h2⟩ := ha
  obtain ⟨t, h3, h4⟩ := hb
  refine ⟨s ++ t, ?_, by rw [List.length_append]; omega⟩
  simp -implicitDefEqProofs only [execs, exec, ev, evs, evC, evP, execM, List.getElem?_cons_zero, List.getElem?_cons_succ, sl_sh, sl_ow, sl_sht, sl_owt, fin_f, fin_t, cons_sh, cons_fr, cons_bo, cons_ex, cons_ok_ex, lbind_ok, lbind_ex, bind_ok, bind_ex, cond_b, kp_sh, kp_fr, kp_ex, tru_bl, tru_ex, tru_lst, tru_str, ofB_some', ofV_some, ofO_some, nox_ok, chnR_eq c_le_int, cmpR_eq c_le_int, cmpR_eq c_lt_int, cmpR_eq c_ge_int, cmpR_eq c_gt_int, cmpR_eq c_eq_int, cmpR_eq c_ne_int, cmpR_eq c_eq_str, cmpR_eq c_ne_str, cmpR_eq c_in_sgn, cmpR_eq c_nin_sgn, cmpR_eq c_is_non, cmpR_eq c_isnot_non, b_len_lst, b_len_tup, b_len_cdt, b_len_str, b_all, b_int_int, b_int_bl, b_int_str, b_str_int, b_str_str, b_isinst, b_list_lst, b_list_dct, b_tuple_lst, strK_str, m_sw, fk_sh, fk_fr, fk_ex, fl_ok, fl_ex, lfl_ok, lfl_ex, fc_b, fc_ex, seq_nx, seq_rt, seq_ex, seq_bk, seq_ct, ofFl_rt, ofFl_nx, ofFl_ex, turn_nx, turn_ct, turn_bk, turn_rt, turn_ex, it_lst, it_tup, it_str, it_rng1, it_rng2, it_enum, cmpR_eq c_ne_bl, cmpR_eq c_eq_bl, List.length_cons, List.length_nil, Nat.zero_add, Nat.reduceAdd, Nat.reduceLeDiff, BEq.rfl, clr, slots, Option.map, tgB, List.set_cons_zero, List.set_cons_succ, calR, toSl, Bool.false_eq_true, if_false, if_true, rtlR, frzL, frz1, List.foldl_cons, List.foldl_nil, owOf, ownK, lstK, appP, owS, raiR, tupR, lstR, Bool.not_true, Bool.not_false, nobF, ofF, ty_int0, ty_int1, ty_int2, ty_int3, ty_int4, is23_int, ty_str0, ty_str1, ty_str2, ty_str3, ty_str4, is23_str, ty_lst0, ty_lst1, ty_lst2, ty_lst3, ty_lst4, is23_lst, ty_tup0, ty_tup1, ty_tup2, ty_tup3, ty_tup4, is23_tup, ty_bl0, ty_bl1, ty_bl2, ty_bl3, ty_bl4, is23_bl, ty_non0, ty_non1, ty_non2, ty_non3, ty_non4, is23_non, h1, h3, addS (show s.length + t.length ≤ SL by omega)]
theorem pt_nil : isPt X .nil env := ⟨none, fun k => rfl⟩
theorem pt_e {q : Md} {i : Int} (h : ev X false e env = .ok q (.int i)) : isPt X (.cons e .nil) env := ⟨some i, fun k => by simp -implicitDefEqProofs only [execs, exec, ev, evs, evC, evP, execM, List.getElem?_cons_zero, List.getElem?_cons_succ, sl_sh, sl_ow, sl_sht, sl_owt, fin_f, fin_t, cons_sh, cons_fr, cons_bo, cons_ex, cons_ok_ex, lbind_ok, lbind_ex, bind_ok, bind_ex, cond_b, kp_sh, kp_fr, kp_ex, tru_bl, tru_ex, tru_lst, tru_str, ofB_some', ofV_some, ofO_some, nox_ok, chnR_eq c_le_int, cmpR_eq c_le_int, cmpR_eq c_lt_int, cmpR_eq c_ge_int, cmpR_eq c_gt_int, cmpR_eq c_eq_int, cmpR_eq c_ne_int, cmpR_eq c_eq_str, cmpR_eq c_ne_str, cmpR_eq c_in_sgn, cmpR_eq c_nin_sgn, cmpR_eq c_is_non, cmpR_eq c_isnot_non, b_len_lst, b_len_tup, b_len_cdt, b_len_str, b_all, b_int_int, b_int_bl, b_int_str, b_str_int, b_str_str, b_isinst, b_list_lst, b_list_dct, b_tuple_lst, strK_str, m_sw, fk_sh, fk_fr, fk_ex, fl_ok, fl_ex, lfl_ok, lfl_ex, fc_b, fc_ex, seq_nx, seq_rt, seq_ex, seq_bk, seq_ct, ofFl_rt, ofFl_nx, ofFl_ex, turn_nx, turn_ct, turn_bk, turn_rt, turn_ex, it_lst, it_tup, it_str, it_rng1, it_rng2, it_enum, cmpR_eq c_ne_bl, cmpR_eq c_eq_bl, List.length_cons, List.length_nil, Nat.zero_add, Nat.reduceAdd, Nat.reduceLeDiff, BEq.rfl, clr, slots, Option.map, tgB, List.set_cons_zero, List.set_cons_succ, calR, toSl, Bool.false_eq_true, if_false, if_true, rtlR, frzL, frz1, List.foldl_cons, List.foldl_nil, owOf, ownK, lstK, appP, owS, raiR, tupR, lstR, Bool.not_true, Bool.not_false, nobF, ofF, ty_int0, ty_int1, ty_int2, ty_int3, ty_int4, is23_int, ty_str0, ty_str1, ty_str2, ty_str3, ty_str4, is23_str, ty_lst0, ty_lst1, ty_lst2, ty_lst3, ty_lst4, is23_lst, ty_tup0, ty_tup1, ty_tup2, ty_tup3, ty_tup4, is23_tup, ty_bl0, ty_bl1, ty_bl2, ty_bl3, ty_bl4, is23_bl, ty_non0, ty_non1, ty_non2, ty_non3, ty_non4, is23_non, h, intK_int]⟩
theorem txt_slc (ha : isTxt (ev X false a env) n) (hl : isPt X lo env) (hh : isPt X hi env) : isTxt (ev X false (.slc a lo hi) env) n := by
  obtain ⟨s, h1, h2⟩ := ha
  obtain ⟨o, h3⟩ := hl
  obtain ⟨p, h4⟩ := hh
  refine ⟨cut s o p, ?_, Nat.le_trans (cut_len s o p) h2⟩
  simp -implicitDefEqProofs only [execs, exec, ev, evs, evC, evP, execM, List.getElem?_cons_zero, List.getElem?_cons_succ, sl_sh, sl_ow, sl_sht, sl_owt, fin_f, fin_t, cons_sh, cons_fr, cons_bo, cons_ex, cons_ok_ex, lbind_ok, lbind_ex, bind_ok, bind_ex, cond_b, kp_sh, kp_fr, kp_ex, tru_bl, tru_ex, tru_lst, tru_str, ofB_some', ofV_some, ofO_some, nox_ok, chnR_eq c_le_int, cmpR_eq c_le_int, cmpR_eq c_lt_int, cmpR_eq c_ge_int, cmpR_eq c_gt_int, cmpR_eq c_eq_int, cmpR_eq c_ne_int, cmpR_eq c_eq_str, cmpR_eq c_ne_str, cmpR_eq c_in_sgn, cmpR_eq c_nin_sgn, cmpR_eq c_is_non, cmpR_eq c_isnot_non, b_len_lst, b_len_tup, b_len_cdt, b_len_str, b_all, b_int_int, b_int_bl, b_int_str, b_str_int, b_str_str, b_isinst, b_list_lst, b_list_dct, b_tuple_lst, strK_str, m_sw, fk_sh, fk_fr, fk_ex, fl_ok, fl_ex, lfl_ok, lfl_ex, fc_b, fc_ex, seq_nx, seq_rt, seq_ex, seq_bk, seq_ct, ofFl_rt, ofFl_nx, ofFl_ex, turn_nx, turn_ct, turn_bk, turn_rt, turn_ex, it_lst, it_tup, it_str, it_rng1, it_rng2, it_enum, cmpR_eq c_ne_bl, cmpR_eq c_eq_bl, List.length_cons, List.length_nil, Nat.zero_add, Nat.reduceAdd, Nat.reduceLeDiff, BEq.rfl, clr, slots, Option.map, tgB, List.set_cons_zero, List.set_cons_succ, calR, toSl, Bool.false_eq_true, if_false, if_true, rtlR, frzL, frz1, List.foldl_cons, List.foldl_nil, owOf, ownK, lstK, appP, owS, raiR, tupR, lstR, Bool.not_true, Bool.not_false, nobF, ofF, ty_int0, ty_int1, ty_int2, ty_int3, ty_int4, is23_int, ty_str0, ty_str1, ty_str2, ty_str3, ty_str4, is23_str, ty_lst0, ty_lst1, ty_lst2, ty_lst3, ty_lst4, is23_lst, ty_tup0, ty_tup1, ty_tup2, ty_tup3, ty_tup4, is23_tup, ty_bl0, ty_bl1, ty_bl2, ty_bl3, ty_bl4, is23_bl, ty_non0, ty_non1, ty_non2, ty_non3, ty_non4, is23_non, h1, h3, h4, slc_str]
theorem txs_slc (ha : isTxs (ev X false a env) n) (hl : isPt X lo env) (hh : isPt X hi env) : isTxs (ev X false (.slc a lo hi) env) n := by
  obtain ⟨q, s, h1, h2⟩ := ha
  obtain ⟨o, h3⟩ := hl
  obtain ⟨p, h4⟩ := hh
  refine ⟨.fr, cut s o p, ?_, Nat.le_trans (lw_cut s o p) h2⟩
  simp -implicitDefEqProofs only [execs, exec, ev, evs, evC, evP, execM, List.getElem?_cons_zero, List.getElem?_cons_succ, sl_sh, sl_ow, sl_sht, sl_owt, fin_f, fin_t, cons_sh, cons_fr, cons_bo, cons_ex, cons_ok_ex, lbind_ok, lbind_ex, bind_ok, bind_ex, cond_b, kp_sh, kp_fr, kp_ex, tru_bl, tru_ex, tru_lst, tru_str, ofB_some', ofV_some, ofO_some, nox_ok, chnR_eq c_le_int, cmpR_eq c_le_int, cmpR_eq c_lt_int, cmpR_eq c_ge_int, cmpR_eq c_gt_int, cmpR_eq c_eq_int, cmpR_eq c_ne_int, cmpR_eq c_eq_str, cmpR_eq c_ne_str, cmpR_eq c_in_sgn, cmpR_eq c_nin_sgn, cmpR_eq c_is_non, cmpR_eq c_isnot_non, b_len_lst, b_len_tup, b_len_cdt, b_len_str, b_all, b_int_int, b_int_bl, b_int_str, b_str_int, b_str_str, b_isinst, b_list_lst, b_list_dct, b_tuple_lst, strK_str, m_sw, fk_sh, fk_fr, fk_ex, fl_ok, fl_ex, lfl_ok, lfl_ex, fc_b, fc_ex, seq_nx, seq_rt, seq_ex, seq_bk, seq_ct, ofFl_rt, ofFl_nx, ofFl_ex, turn_nx, turn_ct, turn_bk, turn_rt, turn_ex, it_lst, it_tup, it_str, it_rng1, it_rng2, it_enum, cmpR_eq c_ne_bl, cmpR_eq c_eq_bl, List.length_cons, List.length_nil, Nat.zero_add, Nat.reduceAdd, Nat.reduceLeDiff, BEq.rfl, clr, slots, Option.map, tgB, List.set_cons_zero, List.set_cons_succ, calR, toSl, Bool.false_eq_true, if_false, if_true, rtlR, frzL, frz1, List.foldl_cons, List.foldl_nil, owOf, ownK, lstK, appP, owS, raiR, tupR, lstR, Bool.not_true, Bool.not_false, nobF, ofF, ty_int0, ty_int1, ty_int2, ty_int3, ty_int4, is23_int, ty_str0, ty_str1, ty_str2, ty_str3, ty_str4, is23_str, ty_lst0, ty_lst1, ty_lst2, ty_lst3, ty_lst4, is23_lst, ty_tup0, ty_tup1, ty_tup2, ty_tup3, ty_tup4, is23_tup, ty_bl0, ty_bl1, ty_bl2, ty_bl3, ty_bl4, is23_bl, ty_non0, ty_non1, ty_non2, ty_non3, ty_non4, is23_non, h1, h3, h4, slc_lst, cut_map]
theorem txs_add (ha : isTxs (ev X false a env) n) (hb : isTxs (ev X false b env) m) (hl : n + m ≤ LL) (hk : n + m ≤ k) : isTxs (ev X false (.bin .add a b) env) k := by
  obtain ⟨p, s, h1, h2⟩ := ha
  obtain ⟨q, t, h3, h4⟩ := hb
  refine ⟨.fr, s ++ t, ?_, by rw [lw_app]; omega⟩
  have e1 := lw_len s
  have e2 := lw_len t
  simp -implicitDefEqProofs only [execs, exec, ev, evs, evC, evP, execM, List.getElem?_cons_zero, List.getElem?_cons_succ, sl_sh, sl_ow, sl_sht, sl_owt, fin_f, fin_t, cons_sh, cons_fr, cons_bo, cons_ex, cons_ok_ex, lbind_ok, lbind_ex, bind_ok, bind_ex, cond_b, kp_sh, kp_fr, kp_ex, tru_bl, tru_ex, tru_lst, tru_str, ofB_some', ofV_some, ofO_some, nox_ok, chnR_eq c_le_int, cmpR_eq c_le_int, cmpR_eq c_lt_int, cmpR_eq c_ge_int, cmpR_eq c_gt_int, cmpR_eq c_eq_int, cmpR_eq c_ne_int, cmpR_eq c_eq_str, cmpR_eq c_ne_str, cmpR_eq c_in_sgn, cmpR_eq c_nin_sgn, cmpR_eq c_is_non, cmpR_eq c_isnot_non, b_len_lst, b_len_tup, b_len_cdt, b_len_str, b_all, b_int_int, b_int_bl, b_int_str, b_str_int, b_str_str, b_isinst, b_list_lst, b_list_dct, b_tuple_lst, strK_str, m_sw, fk_sh, fk_fr, fk_ex, fl_ok, fl_ex, lfl_ok, lfl_ex, fc_b, fc_ex, seq_nx, seq_rt, seq_ex, seq_bk, seq_ct, ofFl_rt, ofFl_nx, ofFl_ex, turn_nx, turn_ct, turn_bk, turn_rt, turn_ex, it_lst, it_tup, it_str, it_rng1, it_rng2, it_enum, cmpR_eq c_ne_bl, cmpR_eq c_eq_bl, List.length_cons, List.length_nil, Nat.zero_add, Nat.reduceAdd, Nat.reduceLeDiff, BEq.rfl, clr, slots, Option.map, tgB, List.set_cons_zero, List.set_cons_succ, calR, toSl, Bool.false_eq_true, if_false, if_true, rtlR, frzL, frz1, List.foldl_cons, List.foldl_nil, owOf, ownK, lstK, appP, owS, raiR, tupR, lstR, Bool.not_true, Bool.not_false, nobF, ofF, ty_int0, ty_int1, ty_int2, ty_int3, ty_int4, is23_int, ty_str0, ty_str1, ty_str2, ty_str3, ty_str4, is23_str, ty_lst0, ty_lst1, ty_lst2, ty_lst3, ty_lst4, is23_lst, ty_tup0, ty_tup1, ty_tup2, ty_tup3, ty_tup4, is23_tup, ty_bl0, ty_bl1, ty_bl2, ty_bl3, ty_bl4, is23_bl, ty_non0, ty_non1, ty_non2, ty_non3, ty_non4, is23_non, h1, h3, addL (show (s.map PV.str).length + (t.map PV.str).length ≤ LL by simp -implicitDefEqProofs only [List.length_map]; omega), List.map_append]
theorem txs_one (ha : isTxt (ev X false a env) n) (hk : n + 1 ≤ k) : isTxs (ev X false (.lst (.cons a .nil)) env) k := by
  obtain ⟨s, h1, h2⟩ := ha
  refine ⟨.fr, [s], ?_, by rw [lw_cons, lw_nil]; omega⟩
  simp -implicitDefEqProofs only [execs, exec, ev, evs, evC, evP, execM, List.getElem?_cons_zero, List.getElem?_cons_succ, sl_sh, sl_ow, sl_sht, sl_owt, fin_f, fin_t, cons_sh, cons_fr, cons_bo, cons_ex, cons_ok_ex, lbind_ok, lbind_ex, bind_ok, bind_ex, cond_b, kp_sh, kp_fr, kp_ex, tru_bl, tru_ex, tru_lst, tru_str, ofB_some', ofV_some, ofO_some, nox_ok, chnR_eq c_le_int, cmpR_eq c_le_int, cmpR_eq c_lt_int, cmpR_eq c_ge_int, cmpR_eq c_gt_int, cmpR_eq c_eq_int, cmpR_eq c_ne_int, cmpR_eq c_eq_str, cmpR_eq c_ne_str, cmpR_eq c_in_sgn, cmpR_eq c_nin_sgn, cmpR_eq c_is_non, cmpR_eq c_isnot_non, b_len_lst, b_len_tup, b_len_cdt, b_len_str, b_all, b_int_int, b_int_bl, b_int_str, b_str_int, b_str_str, b_isinst, b_list_lst, b_list_dct, b_tuple_lst, strK_str, m_sw, fk_sh, fk_fr, fk_ex, fl_ok, fl_ex, lfl_ok, lfl_ex, fc_b, fc_ex, seq_nx, seq_rt, seq_ex, seq_bk, seq_ct, ofFl_rt, ofFl_nx, ofFl_ex, turn_nx, turn_ct, turn_bk, turn_rt, turn_ex, it_lst, it_tup, it_str, it_rng1, it_rng2, it_enum, cmpR_eq c_ne_bl, cmpR_eq c_eq_bl, List.length_cons, List.length_nil, Nat.zero_add, Nat.reduceAdd, Nat.reduceLeDiff, BEq.rfl, clr, slots, Option.map, tgB, List.set_cons_zero, List.set_cons_succ, calR, toSl, Bool.false_eq_true, if_false, if_true, rtlR, frzL, frz1, List.foldl_cons, List.foldl_nil, owOf, ownK, lstK, appP, owS, raiR, tupR, lstR, Bool.not_true, Bool.not_false, nobF, ofF, ty_int0, ty_int1, ty_int2, ty_int3, ty_int4, is23_int, ty_str0, ty_str1, ty_str2, ty_str3, ty_str4, is23_str, ty_lst0, ty_lst1, ty_lst2, ty_lst3, ty_lst4, is23_lst, ty_tup0, ty_tup1, ty_tup2, ty_tup3, ty_tup4, is23_tup, ty_bl0, ty_bl1, ty_bl2, ty_bl3, ty_bl4, is23_bl, ty_non0, ty_non1, ty_non2, ty_non3, ty_non4, is23_non, h1]
  rfl
theorem txs_ow {i : Nat} (ls : List (List Nat)) (h1 : env[i]? = some (.ow (.lst (ls.map .str)))) (h : lw ls ≤ n) : isTxs (ev X false (.loc i) env) n := by
  refine ⟨.bo, ls, ?_, h⟩
  simp -implicitDefEqProofs only [execs, exec, ev, evs, evC, evP, execM, List.getElem?_cons_zero, List.getElem?_cons_succ, sl_sh, sl_ow, sl_sht, sl_owt, fin_f, fin_t, cons_sh, cons_fr, cons_bo, cons_ex, cons_ok_ex, lbind_ok, lbind_ex, bind_ok, bind_ex, cond_b, kp_sh, kp_fr, kp_ex, tru_bl, tru_ex, tru_lst, tru_str, ofB_some', ofV_some, ofO_some, nox_ok, chnR_eq c_le_int, cmpR_eq c_le_int, cmpR_eq c_lt_int, cmpR_eq c_ge_int, cmpR_eq c_gt_int, cmpR_eq c_eq_int, cmpR_eq c_ne_int, cmpR_eq c_eq_str, cmpR_eq c_ne_str, cmpR_eq c_in_sgn, cmpR_eq c_nin_sgn, cmpR_eq c_is_non, cmpR_eq c_isnot_non, b_len_lst, b_len_tup, b_len_cdt, b_len_str, b_all, b_int_int, b_int_bl, b_int_str, b_str_int, b_str_str, b_isinst, b_list_lst, b_list_dct, b_tuple_lst, strK_str, m_sw, fk_sh, fk_fr, fk_ex, fl_ok, fl_ex, lfl_ok, lfl_ex, fc_b, fc_ex, seq_nx, seq_rt, seq_ex, seq_bk, seq_ct, ofFl_rt, ofFl_nx, ofFl_ex, turn_nx, turn_ct, turn_bk, turn_rt, turn_ex, it_lst, it_tup, it_str, it_rng1, it_rng2, it_enum, cmpR_eq c_ne_bl, cmpR_eq c_eq_bl, List.length_cons, List.length_nil, Nat.zero_add, Nat.reduceAdd, Nat.reduceLeDiff, BEq.rfl, clr, slots, Option.map, tgB, List.set_cons_zero, List.set_cons_succ, calR, toSl, Bool.false_eq_true, if_false, if_true, rtlR, frzL, frz1, List.foldl_cons, List.foldl_nil, owOf, ownK, lstK, appP, owS, raiR, tupR, lstR, Bool.not_true, Bool.not_false, nobF, ofF, ty_int0, ty_int1, ty_int2, ty_int3, ty_int4, is23_int, ty_str0, ty_str1, ty_str2, ty_str3, ty_str4, is23_str, ty_lst0, ty_lst1, ty_lst2, ty_lst3, ty_lst4, is23_lst, ty_tup0, ty_tup1, ty_tup2, ty_tup3, ty_tup4, is23_tup, ty_bl0, ty_bl1, ty_bl2, ty_bl3, ty_bl4, is23_bl, ty_non0, ty_non1, ty_non2, ty_non3, ty_non4, is23_non, h1]
theorem txs_sh {i : Nat} (ls : List (List Nat)) (h1 : env[i]? = some (.sh (.lst (ls.map .str)))) (h : lw ls ≤ n) : isTxs (ev X false (.loc i) env) n := by
  refine ⟨.sh, ls, ?_, h⟩
  simp -implicitDefEqProofs only [execs, exec, ev, evs, evC, evP, execM, List.getElem?_cons_zero, List.getElem?_cons_succ, sl_sh, sl_ow, sl_sht, sl_owt, fin_f, fin_t, cons_sh, cons_fr, cons_bo, cons_ex, cons_ok_ex, lbind_ok, lbind_ex, bind_ok, bind_ex, cond_b, kp_sh, kp_fr, kp_ex, tru_bl, tru_ex, tru_lst, tru_str, ofB_some', ofV_some, ofO_some, nox_ok, chnR_eq c_le_int, cmpR_eq c_le_int, cmpR_eq c_lt_int, cmpR_eq c_ge_int, cmpR_eq c_gt_int, cmpR_eq c_eq_int, cmpR_eq c_ne_int, cmpR_eq c_eq_str, cmpR_eq c_ne_str, cmpR_eq c_in_sgn, cmpR_eq c_nin_sgn, cmpR_eq c_is_non, cmpR_eq c_isnot_non, b_len_lst, b_len_tup, b_len_cdt, b_len_str, b_all, b_int_int, b_int_bl, b_int_str, b_str_int, b_str_str, b_isinst, b_list_lst, b_list_dct, b_tuple_lst, strK_str, m_sw, fk_sh, fk_fr, fk_ex, fl_ok, fl_ex, lfl_ok, lfl_ex, fc_b, fc_ex, seq_nx, seq_rt, seq_ex, seq_bk, seq_ct, ofFl_rt, ofFl_nx, ofFl_ex, turn_nx, turn_ct, turn_bk, turn_rt, turn_ex, it_lst, it_tup, it_str, it_rng1, it_rng2, it_enum, cmpR_eq c_ne_bl, cmpR_eq c_eq_bl, List.length_cons, List.length_nil, Nat.zero_add, Nat.reduceAdd, Nat.reduceLeDiff, BEq.rfl, clr, slots, Option.map, tgB, List.set_cons_zero, List.set_cons_succ, calR, toSl, Bool.false_eq_true, if_false, if_true, rtlR, frzL, frz1, List.foldl_cons, List.foldl_nil, owOf, ownK, lstK, appP, owS, raiR, tupR, lstR, Bool.not_true, Bool.not_false, nobF, ofF, ty_int0, ty_int1, ty_int2, ty_int3, ty_int4, is23_int, ty_str0, ty_str1, ty_str2, ty_str3, ty_str4, is23_str, ty_lst0, ty_lst1, ty_lst2, ty_lst3, ty_lst4, is23_lst, ty_tup0, ty_tup1, ty_tup2, ty_tup3, ty_tup4, is23_tup, ty_bl0, ty_bl1, ty_bl2, ty_bl3, ty_bl4, is23_bl, ty_non0, ty_non1, ty_non2, ty_non3, ty_non4, is23_non, h1]
theorem cons_nb {m : Md} {v : PV} {n : Bool} {vs : List PV} : ∃ b, (Rs.ok m v).cons (.ok n vs) = .ok b (v :: vs) := by
  cases m <;> simp -implicitDefEqProofs only [cons_sh, cons_fr, cons_bo] <;> exact ⟨_, rfl⟩
theorem txt_join (c : Nat) (ha : isTxs (ev X false a env) n) (hl : n ≤ SL) : isTxt (ev X false (.mth .join (.cst (.str [c])) (.cons a .nil)) env) n := by
  obtain ⟨q, s, h1, h2⟩ := ha
  refine ⟨joinS [c] s, ?_, Nat.le_trans (joinS_len c s) h2⟩
  obtain ⟨b, hb⟩ := cons_nb (m := q) (v := .lst (s.map .str)) (n := true) (vs := [])
  simp -implicitDefEqProofs only [execs, exec, ev, evs, evC, evP, execM, List.getElem?_cons_zero, List.getElem?_cons_succ, sl_sh, sl_ow, sl_sht, sl_owt, fin_f, fin_t, cons_sh, cons_fr, cons_bo, cons_ex, cons_ok_ex, lbind_ok, lbind_ex, bind_ok, bind_ex, cond_b, kp_sh, kp_fr, kp_ex, tru_bl, tru_ex, tru_lst, tru_str, ofB_some', ofV_some, ofO_some, nox_ok, chnR_eq c_le_int, cmpR_eq c_le_int, cmpR_eq c_lt_int, cmpR_eq c_ge_int, cmpR_eq c_gt_int, cmpR_eq c_eq_int, cmpR_eq c_ne_int, cmpR_eq c_eq_str, cmpR_eq c_ne_str, cmpR_eq c_in_sgn, cmpR_eq c_nin_sgn, cmpR_eq c_is_non, cmpR_eq c_isnot_non, b_len_lst, b_len_tup, b_len_cdt, b_len_str, b_all, b_int_int, b_int_bl, b_int_str, b_str_int, b_str_str, b_isinst, b_list_lst, b_list_dct, b_tuple_lst, strK_str, m_sw, fk_sh, fk_fr, fk_ex, fl_ok, fl_ex, lfl_ok, lfl_ex, fc_b, fc_ex, seq_nx, seq_rt, seq_ex, seq_bk, seq_ct, ofFl_rt, ofFl_nx, ofFl_ex, turn_nx, turn_ct, turn_bk, turn_rt, turn_ex, it_lst, it_tup, it_str, it_rng1, it_rng2, it_enum, cmpR_eq c_ne_bl, cmpR_eq c_eq_bl, List.length_cons, List.length_nil, Nat.zero_add, Nat.reduceAdd, Nat.reduceLeDiff, BEq.rfl, clr, slots, Option.map, tgB, List.set_cons_zero, List.set_cons_succ, calR, toSl, Bool.false_eq_true, if_false, if_true, rtlR, frzL, frz1, List.foldl_cons, List.foldl_nil, owOf, ownK, lstK, appP, owS, raiR, tupR, lstR, Bool.not_true, Bool.not_false, nobF, ofF, ty_int0, ty_int1, ty_int2, ty_int3, ty_int4, is23_int, ty_str0, ty_str1, ty_str2, ty_str3, ty_str4, is23_str, ty_lst0, ty_lst1, ty_lst2, ty_lst3, ty_lst4, is23_lst, ty_tup0, ty_tup1, ty_tup2, ty_tup3, ty_tup4, is23_tup, ty_bl0, ty_bl1, ty_bl2, ty_bl3, ty_bl4, is23_bl, ty_non0, ty_non1, ty_non2, ty_non3, ty_non4, is23_non, h1, hb, m_join c s (by omega)]
theorem txt_sub1 {i : Nat} {q : Md} {j : Int} (ls : List (List Nat)) (h1 : env[i]? = some (.ow (.lst (ls.map .str)))) (h2 : ev X false e env = .ok q (.int j)) (h3 : 0 ≤ j) (h4 : j < ls.length) (h : lw ls ≤ n) : isTxt (ev X false (.sub (.loc i) e) env) n := by
  obtain ⟨x, hx, e1⟩ := atP_lt (ls.map PV.str) j h3 (by simpa using h4)
  obtain ⟨y, hy, rfl⟩ := List.mem_map.mp hx
  refine ⟨y, ?_, by have := lw_mem hy; omega⟩
  simp -implicitDefEqProofs only [execs, exec, ev, evs, evC, evP, execM, List.getElem?_cons_zero, List.getElem?_cons_succ, sl_sh, sl_ow, sl_sht, sl_owt, fin_f, fin_t, cons_sh, cons_fr, cons_bo, cons_ex, cons_ok_ex, lbind_ok, lbind_ex, bind_ok, bind_ex, cond_b, kp_sh, kp_fr, kp_ex, tru_bl, tru_ex, tru_lst, tru_str, ofB_some', ofV_some, ofO_some, nox_ok, chnR_eq c_le_int, cmpR_eq c_le_int, cmpR_eq c_lt_int, cmpR_eq c_ge_int, cmpR_eq c_gt_int, cmpR_eq c_eq_int, cmpR_eq c_ne_int, cmpR_eq c_eq_str, cmpR_eq c_ne_str, cmpR_eq c_in_sgn, cmpR_eq c_nin_sgn, cmpR_eq c_is_non, cmpR_eq c_isnot_non, b_len_lst, b_len_tup, b_len_cdt, b_len_str, b_all, b_int_int, b_int_bl, b_int_str, b_str_int, b_str_str, b_isinst, b_list_lst, b_list_dct, b_tuple_lst, strK_str, m_sw, fk_sh, fk_fr, fk_ex, fl_ok, fl_ex, lfl_ok, lfl_ex, fc_b, fc_ex, seq_nx, seq_rt, seq_ex, seq_bk, seq_ct, ofFl_rt, ofFl_nx, ofFl_ex, turn_nx, turn_ct, turn_bk, turn_rt, turn_ex, it_lst, it_tup, it_str, it_rng1, it_rng2, it_enum, cmpR_eq c_ne_bl, cmpR_eq c_eq_bl, List.length_cons, List.length_nil, Nat.zero_add, Nat.reduceAdd, Nat.reduceLeDiff, BEq.rfl, clr, slots, Option.map, tgB, List.set_cons_zero, List.set_cons_succ, calR, toSl, Bool.false_eq_true, if_false, if_true, rtlR, frzL, frz1, List.foldl_cons, List.foldl_nil, owOf, ownK, lstK, appP, owS, raiR, tupR, lstR, Bool.not_true, Bool.not_false, nobF, ofF, ty_int0, ty_int1, ty_int2, ty_int3, ty_int4, is23_int, ty_str0, ty_str1, ty_str2, ty_str3, ty_str4, is23_str, ty_lst0, ty_lst1, ty_lst2, ty_lst3, ty_lst4, is23_lst, ty_tup0, ty_tup1, ty_tup2, ty_tup3, ty_tup4, is23_tup, ty_bl0, ty_bl1, ty_bl2, ty_bl3, ty_bl4, is23_bl, ty_non0, ty_non1, ty_non2, ty_non3, ty_non4, is23_non, h1, h2, sub_lst, e1]
/-- the last one -/
theorem atP_last {α : Type} (xs : List α) (h : 0 < xs.length) : ∃ x, x ∈ xs ∧ atP xs (-1) = some x := by
  refine ⟨xs[xs.length - 1], List.getElem_mem _, ?_⟩
  unfold atP ixI
  rw [if_neg (by decide), if_pos (by omega)]
  have e : (-1 + (xs.length : Int)).toNat = xs.length - 1 := by omega
  rw [e]
  show xs[xs.length - 1]? = _
  rw [List.getElem?_eq_getElem]
theorem txt_last {i : Nat} (ls : List (List Nat)) (h1 : env[i]? = some (.ow (.lst (ls.map .str)))) (h4 : 0 < ls.length) (h : lw ls ≤ n) : isTxt (ev X false (.sub (.loc i) (.neg (.cst (.int 1)))) env) n := by
  obtain ⟨x, hx, e1⟩ := atP_last (ls.map PV.str) (by simpa using h4)
  obtain ⟨y, hy, rfl⟩ := List.mem_map.mp hx
  refine ⟨y, ?_, by have := lw_mem hy; omega⟩
  simp -implicitDefEqProofs only [execs, exec, ev, evs, evC, evP, execM, List.getElem?_cons_zero, List.getElem?_cons_succ, sl_sh, sl_ow, sl_sht, sl_owt, fin_f, fin_t, cons_sh, cons_fr, cons_bo, cons_ex, cons_ok_ex, lbind_ok, lbind_ex, bind_ok, bind_ex, cond_b, kp_sh, kp_fr, kp_ex, tru_bl, tru_ex, tru_lst, tru_str, ofB_some', ofV_some, ofO_some, nox_ok, chnR_eq c_le_int, cmpR_eq c_le_int, cmpR_eq c_lt_int, cmpR_eq c_ge_int, cmpR_eq c_gt_int, cmpR_eq c_eq_int, cmpR_eq c_ne_int, cmpR_eq c_eq_str, cmpR_eq c_ne_str, cmpR_eq c_in_sgn, cmpR_eq c_nin_sgn, cmpR_eq c_is_non, cmpR_eq c_isnot_non, b_len_lst, b_len_tup, b_len_cdt, b_len_str, b_all, b_int_int, b_int_bl, b_int_str, b_str_int, b_str_str, b_isinst, b_list_lst, b_list_dct, b_tuple_lst, strK_str, m_sw, fk_sh, fk_fr, fk_ex, fl_ok, fl_ex, lfl_ok, lfl_ex, fc_b, fc_ex, seq_nx, seq_rt, seq_ex, seq_bk, seq_ct, ofFl_rt, ofFl_nx, ofFl_ex, turn_nx, turn_ct, turn_bk, turn_rt, turn_ex, it_lst, it_tup, it_str, it_rng1, it_rng2, it_enum, cmpR_eq c_ne_bl, cmpR_eq c_eq_bl, List.length_cons, List.length_nil, Nat.zero_add, Nat.reduceAdd, Nat.reduceLeDiff, BEq.rfl, clr, slots, Option.map, tgB, List.set_cons_zero, List.set_cons_succ, calR, toSl, Bool.false_eq_true, if_false, if_true, rtlR, frzL, frz1, List.foldl_cons, List.foldl_nil, owOf, ownK, lstK, appP, owS, raiR, tupR, lstR, Bool.not_true, Bool.not_false, nobF, ofF, ty_int0, ty_int1, ty_int2, ty_int3, ty_int4, is23_int, ty_str0, ty_str1, ty_str2, ty_str3, ty_str4, is23_str, ty_lst0, ty_lst1, ty_lst2, ty_lst3, ty_lst4, is23_lst, ty_tup0, ty_tup1, ty_tup2, ty_tup3, ty_tup4, is23_tup, ty_bl0, ty_bl1, ty_bl2, ty_bl3, ty_bl4, is23_bl, ty_non0, ty_non1, ty_non2, ty_non3, ty_non4, is23_non, h1, neg_int, sub_lst, Int.reduceNeg, e1]
theorem txl_nil : isTxl (evs X .nil env) 0 n := ⟨[], rfl, rfl, fun y h => by cases h⟩
theorem txl_cons (ha : isTxt (ev X false a env) n) (hs : isTxl (evs X es env) k n) : isTxl (evs X (.cons a es) env) (k + 1) n := by
  obtain ⟨s, h1, h2⟩ := ha
  obtain ⟨t, h3, h4, h5⟩ := hs
  refine ⟨s :: t, ?_, by simp [h4], fun y hy => ?_⟩
  · simp -implicitDefEqProofs only [execs, exec, ev, evs, evC, evP, execM, List.getElem?_cons_zero, List.getElem?_cons_succ, sl_sh, sl_ow, sl_sht, sl_owt, fin_f, fin_t, cons_sh, cons_fr, cons_bo, cons_ex, cons_ok_ex, lbind_ok, lbind_ex, bind_ok, bind_ex, cond_b, kp_sh, kp_fr, kp_ex, tru_bl, tru_ex, tru_lst, tru_str, ofB_some', ofV_some, ofO_some, nox_ok, chnR_eq c_le_int, cmpR_eq c_le_int, cmpR_eq c_lt_int, cmpR_eq c_ge_int, cmpR_eq c_gt_int, cmpR_eq c_eq_int, cmpR_eq c_ne_int, cmpR_eq c_eq_str, cmpR_eq c_ne_str, cmpR_eq c_in_sgn, cmpR_eq c_nin_sgn, cmpR_eq c_is_non, cmpR_eq c_isnot_non, b_len_lst, b_len_tup, b_len_cdt, b_len_str, b_all, b_int_int, b_int_bl, b_int_str, b_str_int, b_str_str, b_isinst, b_list_lst, b_list_dct, b_tuple_lst, strK_str, m_sw, fk_sh, fk_fr, fk_ex, fl_ok, fl_ex, lfl_ok, lfl_ex, fc_b, fc_ex, seq_nx, seq_rt, seq_ex, seq_bk, seq_ct, ofFl_rt, ofFl_nx, ofFl_ex, turn_nx, turn_ct, turn_bk, turn_rt, turn_ex, it_lst, it_tup, it_str, it_rng1, it_rng2, it_enum, cmpR_eq c_ne_bl, cmpR_eq c_eq_bl, List.length_cons, List.length_nil, Nat.zero_add, Nat.reduceAdd, Nat.reduceLeDiff, BEq.rfl, clr, slots, Option.map, tgB, List.set_cons_zero, List.set_cons_succ, calR, toSl, Bool.false_eq_true, if_false, if_true, rtlR, frzL, frz1, List.foldl_cons, List.foldl_nil, owOf, ownK, lstK, appP, owS, raiR, tupR, lstR, Bool.not_true, Bool.not_false, nobF, ofF, ty_int0, ty_int1, ty_int2, ty_int3, ty_int4, is23_int, ty_str0, ty_str1, ty_str2, ty_str3, ty_str4, is23_str, ty_lst0, ty_lst1, ty_lst2, ty_lst3, ty_lst4, is23_lst, ty_tup0, ty_tup1, ty_tup2, ty_tup3, ty_tup4, is23_tup, ty_bl0, ty_bl1, ty_bl2, ty_bl3, ty_bl4, is23_bl, ty_non0, ty_non1, ty_non2, ty_non3, ty_non4, is23_non, h1, h3, List.map_cons]
  · rcases List.mem_cons.mp hy with rfl | hy
    · exact h2
    · exact h5 y hy
theorem txt_pick {q : Md} {j : Int} (hs : isTxl (evs X es env) k n) (hk : k ≤ 100000) (h2 : ev X false e env = .ok q (.int j)) (h3 : 0 ≤ j) (h4 : j < k) : isTxt (ev X false (.sub (.lst es) e) env) n := by
  obtain ⟨t, e1, e2, e3⟩ := hs
  obtain ⟨x, hx, e4⟩ := atP_lt (t.map PV.str) j h3 (by simp -implicitDefEqProofs only [List.length_map]; omega)
  obtain ⟨y, hy, rfl⟩ := List.mem_map.mp hx
  refine ⟨y, ?_, e3 y hy⟩
  have e5 : lstR true (t.map PV.str) = .ok .fr (.lst (t.map .str)) := if_pos (by simp -implicitDefEqProofs only [List.length_map]; omega)
  simp -implicitDefEqProofs only [ev, evs, fin_f, e1, lbind_ok, e5, bind_ok, h2, sub_lst, e4, ofV_some]
theorem txt_rep (y z : List Nat) (ha : isTxt (ev X false a env) n) (hne : y ≠ z) (hl : n + z.length ≤ SL) (hk : n + z.length ≤ k) : isTxt (ev X false (.mth .replace1 a (.cons (.cst (.str y)) (.cons (.cst (.str z)) (.cons (.cst (.int 1)) .nil)))) env) k := by
  obtain ⟨s, h1, h2⟩ := ha
  have h3 := rep1_len s y z
  refine ⟨rep1 s y z, ?_, by omega⟩
  simp -implicitDefEqProofs only [execs, exec, ev, evs, evC, evP, execM, List.getElem?_cons_zero, List.getElem?_cons_succ, sl_sh, sl_ow, sl_sht, sl_owt, fin_f, fin_t, cons_sh, cons_fr, cons_bo, cons_ex, cons_ok_ex, lbind_ok, lbind_ex, bind_ok, bind_ex, cond_b, kp_sh, kp_fr, kp_ex, tru_bl, tru_ex, tru_lst, tru_str, ofB_some', ofV_some, ofO_some, nox_ok, chnR_eq c_le_int, cmpR_eq c_le_int, cmpR_eq c_lt_int, cmpR_eq c_ge_int, cmpR_eq c_gt_int, cmpR_eq c_eq_int, cmpR_eq c_ne_int, cmpR_eq c_eq_str, cmpR_eq c_ne_str, cmpR_eq c_in_sgn, cmpR_eq c_nin_sgn, cmpR_eq c_is_non, cmpR_eq c_isnot_non, b_len_lst, b_len_tup, b_len_cdt, b_len_str, b_all, b_int_int, b_int_bl, b_int_str, b_str_int, b_str_str, b_isinst, b_list_lst, b_list_dct, b_tuple_lst, strK_str, m_sw, fk_sh, fk_fr, fk_ex, fl_ok, fl_ex, lfl_ok, lfl_ex, fc_b, fc_ex, seq_nx, seq_rt, seq_ex, seq_bk, seq_ct, ofFl_rt, ofFl_nx, ofFl_ex, turn_nx, turn_ct, turn_bk, turn_rt, turn_ex, it_lst, it_tup, it_str, it_rng1, it_rng2, it_enum, cmpR_eq c_ne_bl, cmpR_eq c_eq_bl, List.length_cons, List.length_nil, Nat.zero_add, Nat.reduceAdd, Nat.reduceLeDiff, BEq.rfl, clr, slots, Option.map, tgB, List.set_cons_zero, List.set_cons_succ, calR, toSl, Bool.false_eq_true, if_false, if_true, rtlR, frzL, frz1, List.foldl_cons, List.foldl_nil, owOf, ownK, lstK, appP, owS, raiR, tupR, lstR, Bool.not_true, Bool.not_false, nobF, ofF, ty_int0, ty_int1, ty_int2, ty_int3, ty_int4, is23_int, ty_str0, ty_str1, ty_str2, ty_str3, ty_str4, is23_str, ty_lst0, ty_lst1, ty_lst2, ty_lst3, ty_lst4, is23_lst, ty_tup0, ty_tup1, ty_tup2, ty_tup3, ty_tup4, is23_tup, ty_bl0, ty_bl1, ty_bl2, ty_bl3, ty_bl4, is23_bl, ty_non0, ty_non1, ty_non2, ty_non3, ty_non4, is23_non, h1]
  show (if y ≠ z ∧ s.length + z.length ≤ SL ∧ (rep1 s y z).length ≤ SL then Rs.ok .sh (.str (rep1 s y z)) else .bad) = _
  rw [if_pos ⟨hne, by omega, by omega⟩]
theorem stp {s : Sm} {r : Ss} {env' : Env} (h : exec X s env = .nx env') : execs X (.cons s r) env = execs X r env' := by
  simp -implicitDefEqProofs only [execs.eq_2, h, seq_nx]
theorem if_lt {i : Nat} {w k : Int} {r : Ss} (h7 : env[i]? = some (.sh (.int w))) (h1 : w < k → isTxt (ev X false e env) n) (h2 : ¬ w < k → isTxt (ofFl (execs X r env)) n) : isTxt (ofFl (execs X (.cons (.ifs (.cmp .lt (.loc i) (.cst (.int k))) (.cons (.ret e) .nil) .nil) r) env)) n := by
  by_cases h : w < k
  · obtain ⟨t, h3, h4⟩ := h1 h
    refine ⟨t, ?_, h4⟩
    simp -implicitDefEqProofs only [execs, exec, ev, evs, evC, evP, execM, List.getElem?_cons_zero, List.getElem?_cons_succ, sl_sh, sl_ow, sl_sht, sl_owt, fin_f, fin_t, cons_sh, cons_fr, cons_bo, cons_ex, cons_ok_ex, lbind_ok, lbind_ex, bind_ok, bind_ex, cond_b, kp_sh, kp_fr, kp_ex, tru_bl, tru_ex, tru_lst, tru_str, ofB_some', ofV_some, ofO_some, nox_ok, chnR_eq c_le_int, cmpR_eq c_le_int, cmpR_eq c_lt_int, cmpR_eq c_ge_int, cmpR_eq c_gt_int, cmpR_eq c_eq_int, cmpR_eq c_ne_int, cmpR_eq c_eq_str, cmpR_eq c_ne_str, cmpR_eq c_in_sgn, cmpR_eq c_nin_sgn, cmpR_eq c_is_non, cmpR_eq c_isnot_non, b_len_lst, b_len_tup, b_len_cdt, b_len_str, b_all, b_int_int, b_int_bl, b_int_str, b_str_int, b_str_str, b_isinst, b_list_lst, b_list_dct, b_tuple_lst, strK_str, m_sw, fk_sh, fk_fr, fk_ex, fl_ok, fl_ex, lfl_ok, lfl_ex, fc_b, fc_ex, seq_nx, seq_rt, seq_ex, seq_bk, seq_ct, ofFl_rt, ofFl_nx, ofFl_ex, turn_nx, turn_ct, turn_bk, turn_rt, turn_ex, it_lst, it_tup, it_str, it_rng1, it_rng2, it_enum, cmpR_eq c_ne_bl, cmpR_eq c_eq_bl, List.length_cons, List.length_nil, Nat.zero_add, Nat.reduceAdd, Nat.reduceLeDiff, BEq.rfl, clr, slots, Option.map, tgB, List.set_cons_zero, List.set_cons_succ, calR, toSl, Bool.false_eq_true, if_false, if_true, rtlR, frzL, frz1, List.foldl_cons, List.foldl_nil, owOf, ownK, lstK, appP, owS, raiR, tupR, lstR, Bool.not_true, Bool.not_false, nobF, ofF, ty_int0, ty_int1, ty_int2, ty_int3, ty_int4, is23_int, ty_str0, ty_str1, ty_str2, ty_str3, ty_str4, is23_str, ty_lst0, ty_lst1, ty_lst2, ty_lst3, ty_lst4, is23_lst, ty_tup0, ty_tup1, ty_tup2, ty_tup3, ty_tup4, is23_tup, ty_bl0, ty_bl1, ty_bl2, ty_bl3, ty_bl4, is23_bl, ty_non0, ty_non1, ty_non2, ty_non3, ty_non4, is23_non, h7, h, decide_true, h3]
  · obtain ⟨t, h3, h4⟩ := h2 h
    refine ⟨t, ?_, h4⟩
    rw [← h3]
    simp -implicitDefEqProofs only [execs.eq_2, exec, ev, h7, sl_sh, fin_f, bind_ok, cmpR_eq c_lt_int, h, decide_false, fc_b, Bool.false_eq_true, if_false, execs.eq_1, seq_nx]
theorem if_eq {i : Nat} {w k : Int} {r : Ss} (h7 : env[i]? = some (.sh (.int w))) (h1 : w = k → isTxt (ev X false e env) n) (h2 : ¬ w = k → isTxt (ofFl (execs X r env)) n) : isTxt (ofFl (execs X (.cons (.ifs (.cmp .eq (.loc i) (.cst (.int k))) (.cons (.ret e) .nil) .nil) r) env)) n := by
  by_cases h : w = k
  · obtain ⟨t, h3, h4⟩ := h1 h
    have h' : (w == k) = true := by simpa using h
    refine ⟨t, ?_, h4⟩
    simp -implicitDefEqProofs only [execs, exec, ev, evs, evC, evP, execM, List.getElem?_cons_zero, List.getElem?_cons_succ, sl_sh, sl_ow, sl_sht, sl_owt, fin_f, fin_t, cons_sh, cons_fr, cons_bo, cons_ex, cons_ok_ex, lbind_ok, lbind_ex, bind_ok, bind_ex, cond_b, kp_sh, kp_fr, kp_ex, tru_bl, tru_ex, tru_lst, tru_str, ofB_some', ofV_some, ofO_some, nox_ok, chnR_eq c_le_int, cmpR_eq c_le_int, cmpR_eq c_lt_int, cmpR_eq c_ge_int, cmpR_eq c_gt_int, cmpR_eq c_eq_int, cmpR_eq c_ne_int, cmpR_eq c_eq_str, cmpR_eq c_ne_str, cmpR_eq c_in_sgn, cmpR_eq c_nin_sgn, cmpR_eq c_is_non, cmpR_eq c_isnot_non, b_len_lst, b_len_tup, b_len_cdt, b_len_str, b_all, b_int_int, b_int_bl, b_int_str, b_str_int, b_str_str, b_isinst, b_list_lst, b_list_dct, b_tuple_lst, strK_str, m_sw, fk_sh, fk_fr, fk_ex, fl_ok, fl_ex, lfl_ok, lfl_ex, fc_b, fc_ex, seq_nx, seq_rt, seq_ex, seq_bk, seq_ct, ofFl_rt, ofFl_nx, ofFl_ex, turn_nx, turn_ct, turn_bk, turn_rt, turn_ex, it_lst, it_tup, it_str, it_rng1, it_rng2, it_enum, cmpR_eq c_ne_bl, cmpR_eq c_eq_bl, List.length_cons, List.length_nil, Nat.zero_add, Nat.reduceAdd, Nat.reduceLeDiff, BEq.rfl, clr, slots, Option.map, tgB, List.set_cons_zero, List.set_cons_succ, calR, toSl, Bool.false_eq_true, if_false, if_true, rtlR, frzL, frz1, List.foldl_cons, List.foldl_nil, owOf, ownK, lstK, appP, owS, raiR, tupR, lstR, Bool.not_true, Bool.not_false, nobF, ofF, ty_int0, ty_int1, ty_int2, ty_int3, ty_int4, is23_int, ty_str0, ty_str1, ty_str2, ty_str3, ty_str4, is23_str, ty_lst0, ty_lst1, ty_lst2, ty_lst3, ty_lst4, is23_lst, ty_tup0, ty_tup1, ty_tup2, ty_tup3, ty_tup4, is23_tup, ty_bl0, ty_bl1, ty_bl2, ty_bl3, ty_bl4, is23_bl, ty_non0, ty_non1, ty_non2, ty_non3, ty_non4, is23_non, h7, h', h3]
  · obtain ⟨t, h3, h4⟩ := h2 h
    have h' : (w == k) = false := by simpa using h
    refine ⟨t, ?_, h4⟩
    rw [← h3]
    simp -implicitDefEqProofs only [execs.eq_2, exec, ev, h7, sl_sh, fin_f, bind_ok, cmpR_eq c_eq_int, h', fc_b, Bool.false_eq_true, if_false, execs.eq_1, seq_nx]
def isTxF (f : Fl) (n : Nat) : Prop := ∃ t : List Nat, f = .rt .sh (.str t) ∧ t.length ≤ n
theorem ret_txF (h : isTxt (ev X false e env) n) : isTxF (execs X (.cons (.ret e) .nil) env) n := by
  obtain ⟨t, h1, h2⟩ := h
  refine ⟨t, ?_, h2⟩
  simp -implicitDefEqProofs only [execs, exec, ev, evs, evC, evP, execM, List.getElem?_cons_zero, List.getElem?_cons_succ, sl_sh, sl_ow, sl_sht, sl_owt, fin_f, fin_t, cons_sh, cons_fr, cons_bo, cons_ex, cons_ok_ex, lbind_ok, lbind_ex, bind_ok, bind_ex, cond_b, kp_sh, kp_fr, kp_ex, tru_bl, tru_ex, tru_lst, tru_str, ofB_some', ofV_some, ofO_some, nox_ok, chnR_eq c_le_int, cmpR_eq c_le_int, cmpR_eq c_lt_int, cmpR_eq c_ge_int, cmpR_eq c_gt_int, cmpR_eq c_eq_int, cmpR_eq c_ne_int, cmpR_eq c_eq_str, cmpR_eq c_ne_str, cmpR_eq c_in_sgn, cmpR_eq c_nin_sgn, cmpR_eq c_is_non, cmpR_eq c_isnot_non, b_len_lst, b_len_tup, b_len_cdt, b_len_str, b_all, b_int_int, b_int_bl, b_int_str, b_str_int, b_str_str, b_isinst, b_list_lst, b_list_dct, b_tuple_lst, strK_str, m_sw, fk_sh, fk_fr, fk_ex, fl_ok, fl_ex, lfl_ok, lfl_ex, fc_b, fc_ex, seq_nx, seq_rt, seq_ex, seq_bk, seq_ct, ofFl_rt, ofFl_nx, ofFl_ex, turn_nx, turn_ct, turn_bk, turn_rt, turn_ex, it_lst, it_tup, it_str, it_rng1, it_rng2, it_enum, cmpR_eq c_ne_bl, cmpR_eq c_eq_bl, List.length_cons, List.length_nil, Nat.zero_add, Nat.reduceAdd, Nat.reduceLeDiff, BEq.rfl, clr, slots, Option.map, tgB, List.set_cons_zero, List.set_cons_succ, calR, toSl, Bool.false_eq_true, if_false, if_true, rtlR, frzL, frz1, List.foldl_cons, List.foldl_nil, owOf, ownK, lstK, appP, owS, raiR, tupR, lstR, Bool.not_true, Bool.not_false, nobF, ofF, ty_int0, ty_int1, ty_int2, ty_int3, ty_int4, is23_int, ty_str0, ty_str1, ty_str2, ty_str3, ty_str4, is23_str, ty_lst0, ty_lst1, ty_lst2, ty_lst3, ty_lst4, is23_lst, ty_tup0, ty_tup1, ty_tup2, ty_tup3, ty_tup4, is23_tup, ty_bl0, ty_bl1, ty_bl2, ty_bl3, ty_bl4, is23_bl, ty_non0, ty_non1, ty_non2, ty_non3, ty_non4, is23_non, h1]
theorem txF_ofFl {f : Fl} (h : isTxF f n) : isTxt (ofFl f) n := by
  obtain ⟨t, h1, h2⟩ := h
  exact ⟨t, by rw [h1]; rfl, h2⟩
theorem if_lt2 {i : Nat} {w k : Int} {r s : Ss} (h7 : env[i]? = some (.sh (.int w))) (h1 : w < k → isTxF (execs X s env) n) (h2 : ¬ w < k → isTxt (ofFl (execs X r env)) n) : isTxt (ofFl (execs X (.cons (.ifs (.cmp .lt (.loc i) (.cst (.int k))) s .nil) r) env)) n := by
  by_cases h : w < k
  · obtain ⟨t, h3, h4⟩ := h1 h
    refine ⟨t, ?_, h4⟩
    simp -implicitDefEqProofs only [execs.eq_2, exec, ev, h7, sl_sh, fin_f, bind_ok, cmpR_eq c_lt_int, h, decide_true, fc_b, if_true, execs.eq_1, h3]
    rfl
  · obtain ⟨t, h3, h4⟩ := h2 h
    refine ⟨t, ?_, h4⟩
    rw [← h3]
    simp -implicitDefEqProofs only [execs.eq_2, exec, ev, h7, sl_sh, fin_f, bind_ok, cmpR_eq c_lt_int, h, decide_false, fc_b, Bool.false_eq_true, if_false, execs.eq_1, seq_nx]
theorem put_nat (xs : List PV) (j : Nat) (v : PV) (h : j < xs.length) : putP (.lst xs) (.int (j : Int)) v = some (.lst (xs.set j v)) := by
  show (ixI xs.length (j : Int)).map _ = _
  unfold ixI
  rw [if_pos (by omega), if_pos (by omega)]
  simp
theorem str_at (ls : List (List Nat)) (j : Nat) (h : j < ls.length) : atP (ls.map PV.str) (j : Int) = some (.str ls[j]) := by
  rw [atP_nat _ _ (by simpa using h)]
  simp [h]
theorem set_str (ls : List (List Nat)) (j : Nat) (y : List Nat) : (ls.map PV.str).set j (.str y) = (ls.set j y).map .str := by rw [List.map_set]
end
end EV
set_option Elab.async false
set_option linter.all false
set_option maxRecDepth 100000
set_option maxHeartbeats 2000000
/-! PL4: walks by an invariant, sorted lists, texts read back. -/
namespace EV
open PySem
theorem turnsT {α : Type} {f t : PV → Rs} (i o : α → PV) : ∀ (xs : List α) (acc : List PV), (∀ x ∈ xs, t (i x) = .ok .sh (.bl true)) → (∀ x ∈ xs, f (i x) = .ok .sh (o x) ∨ f (i x) = .ok .fr (o x)) → turns f t (xs.map i) acc = .ok .fr (.lst (acc ++ xs.map o))
  | [], acc, _, _ => by simp [turns]
  | x :: xs, acc, h1, h2 => by
    have ih := turnsT i o xs (acc ++ [o x]) (fun y hy => h1 y (List.mem_cons_of_mem _ hy)) (fun y hy => h2 y (List.mem_cons_of_mem _ hy))
    rcases h2 x List.mem_cons_self with e | e <;> simp [turns, h1 x List.mem_cons_self, e, Rs.cond, Rs.kp, ih]
theorem for_inv' {f : PV → Env → Fl} {cl : List Nat} {I : Nat → Env → Prop} {g : Nat → PV} : ∀ (n k : Nat) (e : Env), I k e → (∀ j, k ≤ j → j < k + n → ∀ e, I j e → ∃ e', f (g j) e = .nx e' ∧ I (j + 1) (clr e' cl)) → ∃ e', forT f cl ((List.range' k n).map g) e = .nx e' ∧ I (k + n) e'
  | 0, k, e, h, _ => ⟨e, rfl, h⟩
  | n + 1, k, e, h, hs => by
    obtain ⟨e1, h1, h2⟩ := hs k (Nat.le_refl _) (by omega) e h
    obtain ⟨e2, h3, h4⟩ := for_inv' (g := g) n (k + 1) (clr e1 cl) h2 (fun j a b => hs j (by omega) (by omega))
    refine ⟨e2, ?_, ?_⟩
    · simp -implicitDefEqProofs only [List.range'_succ, List.map_cons, forT, h1, turn_nx, h3]
    · have : k + (n + 1) = k + 1 + n := by omega
      rw [this]
      exact h4
theorem for_inv {f : PV → Env → Fl} {cl : List Nat} (I : Nat → Env → Prop) {g : Nat → PV} (n : Nat) (e : Env) (h : I 0 e) (hs : ∀ j, j < n → ∀ e, I j e → ∃ e', f (g j) e = .nx e' ∧ I (j + 1) (clr e' cl)) : ∃ e', forT f cl ((List.range n).map g) e = .nx e' ∧ I n e' := by
  have h1 := for_inv' (f := f) (cl := cl) (g := g) n 0 e h (fun j _ b => hs j (by omega))
  rw [List.range_eq_range']
  simpa using h1
theorem for_same {f : PV → Env → Fl} {cl : List Nat} {e : Env} : ∀ xs : List PV, (∀ x ∈ xs, ∃ e', f x e = .nx e' ∧ clr e' cl = e) → forT f cl xs e = .nx e
  | [], _ => rfl
  | x :: xs, h => by
    obtain ⟨e', h1, h2⟩ := h x List.mem_cons_self
    have ih := for_same xs (fun y hy => h y (List.mem_cons_of_mem _ hy))
    simp -implicitDefEqProofs only [forT, h1, turn_nx, h2, ih]
/-- a new list of texts -/
def isTxw (r : Rs) (n : Nat) : Prop := ∃ ys, r = .ok .fr (.lst (ys.map .str)) ∧ lw ys ≤ n
section
variable {X : EC} {env : Env} {n m k : Nat} {a b e : IR} {es lo hi : IRs}
theorem txw_add (ha : isTxs (ev X false a env) n) (hb : isTxs (ev X false b env) m) (hl : n + m ≤ LL) (hk : n + m ≤ k) : isTxw (ev X false (.bin .add a b) env) k := by
  obtain ⟨p, s, h1, h2⟩ := ha
  obtain ⟨q, t, h3, h4⟩ := hb
  refine ⟨s ++ t, ?_, by rw [lw_app]; omega⟩
  have e1 := lw_len s
  have e2 := lw_len t
  simp -implicitDefEqProofs only [execs, exec, ev, evs, evC, evP, execM, List.getElem?_cons_zero, List.getElem?_cons_succ, sl_sh, sl_ow, sl_sht, sl_owt, fin_f, fin_t, cons_sh, cons_fr, cons_bo, cons_ex, cons_ok_ex, lbind_ok, lbind_ex, bind_ok, bind_ex, cond_b, kp_sh, kp_fr, kp_ex, tru_bl, tru_ex, tru_lst, tru_str, ofB_some', ofV_some, ofO_some, nox_ok, chnR_eq c_le_int, cmpR_eq c_le_int, cmpR_eq c_lt_int, cmpR_eq c_ge_int, cmpR_eq c_gt_int, cmpR_eq c_eq_int, cmpR_eq c_ne_int, cmpR_eq c_eq_str, cmpR_eq c_ne_str, cmpR_eq c_in_sgn, cmpR_eq c_nin_sgn, cmpR_eq c_is_non, cmpR_eq c_isnot_non, b_len_lst, b_len_tup, b_len_cdt, b_len_str, b_all, b_int_int, b_int_bl, b_int_str, b_str_int, b_str_str, b_isinst, b_list_lst, b_list_dct, b_tuple_lst, strK_str, m_sw, fk_sh, fk_fr, fk_ex, fl_ok, fl_ex, lfl_ok, lfl_ex, fc_b, fc_ex, seq_nx, seq_rt, seq_ex, seq_bk, seq_ct, ofFl_rt, ofFl_nx, ofFl_ex, turn_nx, turn_ct, turn_bk, turn_rt, turn_ex, it_lst, it_tup, it_str, it_rng1, it_rng2, it_enum, cmpR_eq c_ne_bl, cmpR_eq c_eq_bl, List.length_cons, List.length_nil, Nat.zero_add, Nat.reduceAdd, Nat.reduceLeDiff, BEq.rfl, clr, slots, Option.map, tgB, List.set_cons_zero, List.set_cons_succ, calR, toSl, Bool.false_eq_true, if_false, if_true, rtlR, frzL, frz1, List.foldl_cons, List.foldl_nil, owOf, ownK, lstK, appP, owS, raiR, tupR, lstR, Bool.not_true, Bool.not_false, nobF, ofF, ty_int0, ty_int1, ty_int2, ty_int3, ty_int4, is23_int, ty_str0, ty_str1, ty_str2, ty_str3, ty_str4, is23_str, ty_lst0, ty_lst1, ty_lst2, ty_lst3, ty_lst4, is23_lst, ty_tup0, ty_tup1, ty_tup2, ty_tup3, ty_tup4, is23_tup, ty_bl0, ty_bl1, ty_bl2, ty_bl3, ty_bl4, is23_bl, ty_non0, ty_non1, ty_non2, ty_non3, ty_non4, is23_non, h1, h3, addL (show (s.map PV.str).length + (t.map PV.str).length ≤ LL by simp -implicitDefEqProofs only [List.length_map]; omega), List.map_append]
theorem lw_all (ys : List (List Nat)) (n : Nat) (h : ∀ y ∈ ys, y.length ≤ n) : lw ys ≤ ys.length * (n + 1) := by
  induction ys with
  | nil => simp [lw]
  | cons y ys ih =>
    have h1 := h y List.mem_cons_self
    have h2 := ih (fun z hz => h z (List.mem_cons_of_mem _ hz))
    rw [lw_cons, List.length_cons, Nat.succ_mul]
    omega
theorem txw_lst (h : isTxl (evs X es env) k n) (hk : k ≤ 100000) (hm : k * (n + 1) ≤ m) : isTxw (ev X false (.lst es) env) m := by
  obtain ⟨t, e1, e2, e3⟩ := h
  have h1 := lw_all t n e3
  rw [e2] at h1
  refine ⟨t, ?_, by omega⟩
  have e5 : lstR true (t.map PV.str) = .ok .fr (.lst (t.map .str)) := if_pos (by simp -implicitDefEqProofs only [List.length_map]; omega)
  simp -implicitDefEqProofs only [ev, fin_f, e1, lbind_ok, e5]
theorem isTxw.txs {r : Rs} (h : isTxw r n) : isTxs r n := by
  obtain ⟨ys, h1, h2⟩ := h
  exact ⟨_, ys, h1, h2⟩
theorem for_txw {i : Nat} {bd : Ss} {cl : List Nat} (h : isTxw (ev X false a env) n) (hb : ∀ t : List Nat, t.length ≤ n → ∃ e', execs X bd (env.set i (.sh (.str t))) = .nx e' ∧ clr e' cl = env) : exec X (.for (.v i) .seq (.cons a .nil) bd cl) env = .nx env := by
  obtain ⟨ys, h1, h2⟩ := h
  simp -implicitDefEqProofs only [exec, evs, h1, cons_fr, lfl_ok, it_lst, Option.map, ofF, nobF]
  refine for_same _ fun x hx => ?_
  obtain ⟨y, hy, rfl⟩ := List.mem_map.mp hx
  have := lw_mem hy
  obtain ⟨e', h3, h4⟩ := hb y (by omega)
  exact ⟨e', h3, h4⟩
theorem lc_map {α : Type} {tg : Tg} {kk : IK} {src : IRs} {elt : IR} (i o : α → PV) (xs : List α) {nb : Bool} {vs : List PV} (hs : evs X src env = .ok nb vs) (hi : itm kk vs = some (xs.map i))
    (he : ∀ x ∈ xs, ∃ e, tgB tg (i x) (clr env (slots tg)) = some e ∧ (ev X false elt e = .ok .sh (o x) ∨ ev X false elt e = .ok .fr (o x))) : ev X false (.lc tg kk src .nil elt) env = .ok .fr (.lst (xs.map o)) := by
  simp -implicitDefEqProofs only [ev, fin_f, hs, lbind_ok, hi, Option.map_some, ofO_some]
  rw [turnsT i o xs [] (fun x hx => by
    obtain ⟨e, h1, _⟩ := he x hx
    simp -implicitDefEqProofs only [h1, Option.map_some, ofO_some, evC, nox_ok]) (fun x hx => by
    obtain ⟨e, h1, h2⟩ := he x hx
    rcases h2 with h2 | h2
    · left; simp -implicitDefEqProofs only [h1, Option.map_some, ofO_some, h2, nox_ok]
    · right; simp -implicitDefEqProofs only [h1, Option.map_some, ofO_some, h2, nox_ok])]
  rw [List.nil_append]
theorem ev_tup2 {va vb : PV} (ha : ev X false a env = .ok .sh va) (hb : ev X false b env = .ok .sh vb) : ev X false (.tup (.cons a (.cons b .nil))) env = .ok .sh (.tup [va, vb]) := by simp -implicitDefEqProofs only [execs, exec, ev, evs, evC, evP, execM, List.getElem?_cons_zero, List.getElem?_cons_succ, sl_sh, sl_ow, sl_sht, sl_owt, fin_f, fin_t, cons_sh, cons_fr, cons_bo, cons_ex, cons_ok_ex, lbind_ok, lbind_ex, bind_ok, bind_ex, cond_b, kp_sh, kp_fr, kp_ex, tru_bl, tru_ex, tru_lst, tru_str, ofB_some', ofV_some, ofO_some, nox_ok, chnR_eq c_le_int, cmpR_eq c_le_int, cmpR_eq c_lt_int, cmpR_eq c_ge_int, cmpR_eq c_gt_int, cmpR_eq c_eq_int, cmpR_eq c_ne_int, cmpR_eq c_eq_str, cmpR_eq c_ne_str, cmpR_eq c_in_sgn, cmpR_eq c_nin_sgn, cmpR_eq c_is_non, cmpR_eq c_isnot_non, b_len_lst, b_len_tup, b_len_cdt, b_len_str, b_all, b_int_int, b_int_bl, b_int_str, b_str_int, b_str_str, b_isinst, b_list_lst, b_list_dct, b_tuple_lst, strK_str, m_sw, fk_sh, fk_fr, fk_ex, fl_ok, fl_ex, lfl_ok, lfl_ex, fc_b, fc_ex, seq_nx, seq_rt, seq_ex, seq_bk, seq_ct, ofFl_rt, ofFl_nx, ofFl_ex, turn_nx, turn_ct, turn_bk, turn_rt, turn_ex, it_lst, it_tup, it_str, it_rng1, it_rng2, it_enum, cmpR_eq c_ne_bl, cmpR_eq c_eq_bl, List.length_cons, List.length_nil, Nat.zero_add, Nat.reduceAdd, Nat.reduceLeDiff, BEq.rfl, clr, slots, Option.map, tgB, List.set_cons_zero, List.set_cons_succ, calR, toSl, Bool.false_eq_true, if_false, if_true, rtlR, frzL, frz1, List.foldl_cons, List.foldl_nil, owOf, ownK, lstK, appP, owS, raiR, tupR, lstR, Bool.not_true, Bool.not_false, nobF, ofF, ty_int0, ty_int1, ty_int2, ty_int3, ty_int4, is23_int, ty_str0, ty_str1, ty_str2, ty_str3, ty_str4, is23_str, ty_lst0, ty_lst1, ty_lst2, ty_lst3, ty_lst4, is23_lst, ty_tup0, ty_tup1, ty_tup2, ty_tup3, ty_tup4, is23_tup, ty_bl0, ty_bl1, ty_bl2, ty_bl3, ty_bl4, is23_bl, ty_non0, ty_non1, ty_non2, ty_non3, ty_non4, is23_non, ha, hb]
theorem int_congr {a b : Int} (h : a = b) : Rs.ok .sh (.int a) = .ok .sh (.int b) := by rw [h]
theorem ret_of {v : PV} (h : ev X false e env = .ok .sh v) : execs X (.cons (.ret e) .nil) env = .rt .sh v := by
  simp -implicitDefEqProofs only [execs, exec, ev, evs, evC, evP, execM, List.getElem?_cons_zero, List.getElem?_cons_succ, sl_sh, sl_ow, sl_sht, sl_owt, fin_f, fin_t, cons_sh, cons_fr, cons_bo, cons_ex, cons_ok_ex, lbind_ok, lbind_ex, bind_ok, bind_ex, cond_b, kp_sh, kp_fr, kp_ex, tru_bl, tru_ex, tru_lst, tru_str, ofB_some', ofV_some, ofO_some, nox_ok, chnR_eq c_le_int, cmpR_eq c_le_int, cmpR_eq c_lt_int, cmpR_eq c_ge_int, cmpR_eq c_gt_int, cmpR_eq c_eq_int, cmpR_eq c_ne_int, cmpR_eq c_eq_str, cmpR_eq c_ne_str, cmpR_eq c_in_sgn, cmpR_eq c_nin_sgn, cmpR_eq c_is_non, cmpR_eq c_isnot_non, b_len_lst, b_len_tup, b_len_cdt, b_len_str, b_all, b_int_int, b_int_bl, b_int_str, b_str_int, b_str_str, b_isinst, b_list_lst, b_list_dct, b_tuple_lst, strK_str, m_sw, fk_sh, fk_fr, fk_ex, fl_ok, fl_ex, lfl_ok, lfl_ex, fc_b, fc_ex, seq_nx, seq_rt, seq_ex, seq_bk, seq_ct, ofFl_rt, ofFl_nx, ofFl_ex, turn_nx, turn_ct, turn_bk, turn_rt, turn_ex, it_lst, it_tup, it_str, it_rng1, it_rng2, it_enum, cmpR_eq c_ne_bl, cmpR_eq c_eq_bl, List.length_cons, List.length_nil, Nat.zero_add, Nat.reduceAdd, Nat.reduceLeDiff, BEq.rfl, clr, slots, Option.map, tgB, List.set_cons_zero, List.set_cons_succ, calR, toSl, Bool.false_eq_true, if_false, if_true, rtlR, frzL, frz1, List.foldl_cons, List.foldl_nil, owOf, ownK, lstK, appP, owS, raiR, tupR, lstR, Bool.not_true, Bool.not_false, nobF, ofF, ty_int0, ty_int1, ty_int2, ty_int3, ty_int4, is23_int, ty_str0, ty_str1, ty_str2, ty_str3, ty_str4, is23_str, ty_lst0, ty_lst1, ty_lst2, ty_lst3, ty_lst4, is23_lst, ty_tup0, ty_tup1, ty_tup2, ty_tup3, ty_tup4, is23_tup, ty_bl0, ty_bl1, ty_bl2, ty_bl3, ty_bl4, is23_bl, ty_non0, ty_non1, ty_non2, ty_non3, ty_non4, is23_non, h]
end
/-! ### sorted -/
theorem ltS_iff (a b : List Nat) : ltS a b = true ↔ a < b := by
  induction a generalizing b with
  | nil => cases b <;> simp [ltS]
  | cons x a ih =>
    cases b with
    | nil => simp [ltS]
    | cons y b =>
      rw [List.cons_lt_cons_iff]
      simp -implicitDefEqProofs only [ltS]
      split
      · rename_i h
        subst h
        simp [ih]
      · rename_i h
        simp [h]
def leS (a b : List Nat) : Bool := !ltS b a
theorem leS_iff (a b : List Nat) : leS a b = true ↔ a ≤ b := by
  unfold leS
  rw [Bool.not_eq_true', ← Bool.not_eq_true, ltS_iff]
  exact List.not_lt
def ltP (a b : Nat × Nat) : Bool := if a.1 = b.1 then decide (a.2 < b.2) else decide (a.1 < b.1)
def leP (a b : Nat × Nat) : Bool := !ltP b a
def pairV (p : Nat × Nat) : PV := .tup [.int p.1, .int p.2]
theorem ltv_str (a b : List Nat) : ltv (.str a) (.str b) = ltS a b := by simp [ltv]
theorem ltv_pair (a b : Nat × Nat) : ltv (pairV a) (pairV b) = ltP a b := by
  have h : ∀ x y : Nat, ((x : Int) == (y : Int)) = decide (x = y) := by
    intro x y
    rw [Bool.eq_iff_iff]
    simp
    omega
  have h2 : ∀ x y : Nat, decide ((x : Int) < (y : Int)) = decide (x < y) := by
    intro x y
    rw [Bool.eq_iff_iff]
    simp
  simp -implicitDefEqProofs only [pairV, ltv, ltvs, eqv, h, h2, ltP, decide_eq_true_eq]
  split
  · rename_i h1
    split
    · rename_i h3
      simp [h3]
    · rfl
  · rfl
/-- of a sorted list without doubles: each below the next -/
theorem notAb_none (rows : List PV) (h : rows.Pairwise fun x y => ltv x y = true) : firstB rows = none := by
  unfold firstB
  rw [List.find?_range_eq_none]
  intro i hi
  unfold notAb
  by_cases h0 : 0 < i
  · have h1 : i - 1 < rows.length := by omega
    have := (List.pairwise_iff_getElem.mp h) (i - 1) i h1 hi (by omega)
    simp [h0, List.getElem?_eq_getElem hi, List.getElem?_eq_getElem h1, this]
  · simp [h0]
theorem sort_words (kl : List (List Nat)) (hn : kl.Nodup) : ∃ ws : List (List Nat), sortP (kl.map .str) = ws.map .str ∧ ws.Perm kl ∧ (ws.map PV.str).Pairwise fun x y => ltv x y = true := by
  refine ⟨kl.mergeSort leS, ?_, List.mergeSort_perm _ _, ?_⟩
  · unfold sortP
    rw [List.map_mergeSort]
    intro a _ b _
    simp [leS, lev, ltv_str]
  · rw [List.pairwise_map]
    have h1 : (kl.mergeSort leS).Pairwise fun a b => leS a b = true := List.pairwise_mergeSort (fun a b c h1 h2 => by
      rw [leS_iff] at *
      exact List.le_trans h1 h2) (fun a b => by
      rw [Bool.or_eq_true, leS_iff, leS_iff]
      exact List.le_total a b) _
    have h2 : (kl.mergeSort leS).Nodup := (List.mergeSort_perm kl leS).nodup_iff.mpr hn
    refine List.Pairwise.imp₂ (fun a b h h' => ?_) h1 h2
    rw [ltv_str, ltS_iff]
    rw [leS_iff] at h
    rcases Classical.em (a < b) with h3 | h3
    · exact h3
    · exact absurd (List.le_antisymm h (List.not_lt.mp h3)) h'
theorem sort_pairs (kl : List (Nat × Nat)) (hn : kl.Nodup) : ∃ ws : List (Nat × Nat), sortP (kl.map pairV) = ws.map pairV ∧ ws.Perm kl ∧ (ws.map pairV).Pairwise fun x y => ltv x y = true := by
  refine ⟨kl.mergeSort leP, ?_, List.mergeSort_perm _ _, ?_⟩
  · unfold sortP
    rw [List.map_mergeSort]
    intro a _ b _
    simp [leP, lev, ltv_pair]
  · rw [List.pairwise_map]
    have h1 : (kl.mergeSort leP).Pairwise fun a b => leP a b = true := List.pairwise_mergeSort (fun a b c h1 h2 => by
      unfold leP ltP at *
      repeat (any_goals split at *)
      all_goals simp at *
      all_goals omega) (fun a b => by
      unfold leP ltP
      repeat (any_goals split)
      all_goals simp at *
      all_goals omega) _
    have h2 : (kl.mergeSort leP).Nodup := (List.mergeSort_perm kl leP).nodup_iff.mpr hn
    refine List.Pairwise.imp₂ (fun a b h h' => ?_) h1 h2
    rw [ltv_pair]
    have h3 : a.1 ≠ b.1 ∨ a.2 ≠ b.2 := by
      rcases Classical.em (a.1 = b.1) with e | e
      · exact .inr fun e2 => h' (Prod.ext e e2)
      · exact .inl e
    unfold leP ltP at *
    repeat (any_goals split at *)
    all_goals simp at *
    all_goals omega
/-- a text of lines is read back -/
theorem read_back {α : Type} (rd : List Nat → PV) (enc : α → PV) (sh : α → List Nat) (vs : List α) (h1 : ∀ a ∈ vs, rd (sh a) = enc a) (h2 : ∀ a ∈ vs, isNonP (enc a) = false) (h3 : ∀ a ∈ vs, 10 ∉ sh a) (h4 : ∀ a ∈ vs, sh a ≠ []) (h5 : firstB (vs.map enc) = none) : readR rd (joinS [10] (vs.map sh)) = .yes (vs.map enc) := by
  cases vs with
  | nil => rfl
  | cons v vs =>
    have hne : joinS [10] ((v :: vs).map sh) ≠ [] := by
      have := h4 v List.mem_cons_self
      cases vs with
      | nil => simpa [joinS] using this
      | cons w ws => simp [joinS, this]
    have hsp : splitOn 10 (joinS [10] ((v :: vs).map sh)) = (v :: vs).map sh := split_join 10 _ (by simp) (fun y hy => by
      obtain ⟨a, ha, rfl⟩ := List.mem_map.mp hy
      exact h3 a ha)
    unfold readR readD
    rw [if_neg hne, hsp, List.map_map]
    have e : (v :: vs).map (rd ∘ sh) = (v :: vs).map enc := List.map_congr_left h1
    have e2 : ((v :: vs).map enc).findIdx? isNonP = none := by
      rw [List.findIdx?_eq_none_iff]
      intro x hx
      obtain ⟨a, ha, rfl⟩ := List.mem_map.mp hx
      exact h2 a ha
    rw [e, e2, h5]
theorem item_ne (xs : List PV) (h : ∀ x ∈ xs, itemP x) : cmpP .ne (.lst xs) (.lst xs) = some false := by
  have h1 : ∀ x, itemP x → plain x = true ∧ dep x ≤ 1 ∧ eqv x x = true := by
    intro x hx
    match x, hx with
    | .str s, _ => simp [plain, dep, eqv]
    | .tup [.int a, .int b], _ => simp [plain, plains, dep, deps, eqv, eqvs]
  have h2 : plains xs = true ∧ deps xs ≤ 1 ∧ eqvs xs xs = true := by
    induction xs with
    | nil => simp [plains, deps, eqvs]
    | cons x xs ih =>
      obtain ⟨a, b, c⟩ := ih (fun y hy => h y (List.mem_cons_of_mem _ hy))
      obtain ⟨a', b', c'⟩ := h1 x (h x List.mem_cons_self)
      simp [plains, deps, eqvs, a, b, c, a', b', c']
      omega
  obtain ⟨a, b, c⟩ := h2
  have hd : deps xs + 1 ≤ 32 := by omega
  simp [cmpP, plain, dep, eqv, a, c, hd]
end EV
set_option Elab.async false
set_option linter.all false
set_option maxRecDepth 100000
set_option maxHeartbeats 2000000
/-! PL5: numbers in a range, drawn words and pairs. -/
namespace EV
open PySem
def isInt (r : Rs) (B : Int) : Prop := ∃ i : Int, r = .ok .sh (.int i) ∧ 0 ≤ i ∧ i < B
def isInl (r : Rl) (k : Nat) (B : Int) : Prop := ∃ is : List Int, r = .ok true (is.map .int) ∧ is.length = k ∧ ∀ i ∈ is, 0 ≤ i ∧ i < B
section
variable {X : EC} {env : Env} {n m k : Nat} {a b e : IR} {es lo hi : IRs} {A B C : Int}
theorem isInt.le {r : Rs} (h : isInt r A) (hl : A ≤ B) : isInt r B := by
  obtain ⟨i, h1, h2, h3⟩ := h
  exact ⟨i, h1, h2, by omega⟩
theorem int_cst (i : Int) (h0 : 0 ≤ i) (h : i < B) : isInt (ev X false (.cst (.int i)) env) B := ⟨i, rfl, h0, h⟩
theorem int_loc {i : Nat} (x : Int) (h1 : env[i]? = some (.sh (.int x))) (h0 : 0 ≤ x) (h : x < B) : isInt (ev X false (.loc i) env) B := ⟨x, by simp -implicitDefEqProofs only [execs, exec, ev, evs, evC, evP, execM, List.getElem?_cons_zero, List.getElem?_cons_succ, sl_sh, sl_ow, sl_sht, sl_owt, fin_f, fin_t, cons_sh, cons_fr, cons_bo, cons_ex, cons_ok_ex, lbind_ok, lbind_ex, bind_ok, bind_ex, cond_b, kp_sh, kp_fr, kp_ex, tru_bl, tru_ex, tru_lst, tru_str, ofB_some', ofV_some, ofO_some, nox_ok, chnR_eq c_le_int, cmpR_eq c_le_int, cmpR_eq c_lt_int, cmpR_eq c_ge_int, cmpR_eq c_gt_int, cmpR_eq c_eq_int, cmpR_eq c_ne_int, cmpR_eq c_eq_str, cmpR_eq c_ne_str, cmpR_eq c_in_sgn, cmpR_eq c_nin_sgn, cmpR_eq c_is_non, cmpR_eq c_isnot_non, b_len_lst, b_len_tup, b_len_cdt, b_len_str, b_all, b_int_int, b_int_bl, b_int_str, b_str_int, b_str_str, b_isinst, b_list_lst, b_list_dct, b_tuple_lst, strK_str, m_sw, fk_sh, fk_fr, fk_ex, fl_ok, fl_ex, lfl_ok, lfl_ex, fc_b, fc_ex, seq_nx, seq_rt, seq_ex, seq_bk, seq_ct, ofFl_rt, ofFl_nx, ofFl_ex, turn_nx, turn_ct, turn_bk, turn_rt, turn_ex, it_lst, it_tup, it_str, it_rng1, it_rng2, it_enum, cmpR_eq c_ne_bl, cmpR_eq c_eq_bl, List.length_cons, List.length_nil, Nat.zero_add, Nat.reduceAdd, Nat.reduceLeDiff, BEq.rfl, clr, slots, Option.map, tgB, List.set_cons_zero, List.set_cons_succ, calR, toSl, Bool.false_eq_true, if_false, if_true, rtlR, frzL, frz1, List.foldl_cons, List.foldl_nil, owOf, ownK, lstK, appP, owS, raiR, tupR, lstR, Bool.not_true, Bool.not_false, nobF, ofF, ty_int0, ty_int1, ty_int2, ty_int3, ty_int4, is23_int, ty_str0, ty_str1, ty_str2, ty_str3, ty_str4, is23_str, ty_lst0, ty_lst1, ty_lst2, ty_lst3, ty_lst4, is23_lst, ty_tup0, ty_tup1, ty_tup2, ty_tup3, ty_tup4, is23_tup, ty_bl0, ty_bl1, ty_bl2, ty_bl3, ty_bl4, is23_bl, ty_non0, ty_non1, ty_non2, ty_non3, ty_non4, is23_non, h1], h0, h⟩
theorem int_at {i : Nat} {j x : Int} {xs : List PV} (h1 : env[i]? = some (.ow (.lst xs)) ∨ env[i]? = some (.sh (.lst xs))) (h2 : atP xs j = some (.int x)) (h0 : 0 ≤ x) (h : x < B) : isInt (ev X false (.sub (.loc i) (.cst (.int j))) env) B := by
  refine ⟨x, ?_, h0, h⟩
  rcases h1 with h1 | h1 <;> simp -implicitDefEqProofs only [execs, exec, ev, evs, evC, evP, execM, List.getElem?_cons_zero, List.getElem?_cons_succ, sl_sh, sl_ow, sl_sht, sl_owt, fin_f, fin_t, cons_sh, cons_fr, cons_bo, cons_ex, cons_ok_ex, lbind_ok, lbind_ex, bind_ok, bind_ex, cond_b, kp_sh, kp_fr, kp_ex, tru_bl, tru_ex, tru_lst, tru_str, ofB_some', ofV_some, ofO_some, nox_ok, chnR_eq c_le_int, cmpR_eq c_le_int, cmpR_eq c_lt_int, cmpR_eq c_ge_int, cmpR_eq c_gt_int, cmpR_eq c_eq_int, cmpR_eq c_ne_int, cmpR_eq c_eq_str, cmpR_eq c_ne_str, cmpR_eq c_in_sgn, cmpR_eq c_nin_sgn, cmpR_eq c_is_non, cmpR_eq c_isnot_non, b_len_lst, b_len_tup, b_len_cdt, b_len_str, b_all, b_int_int, b_int_bl, b_int_str, b_str_int, b_str_str, b_isinst, b_list_lst, b_list_dct, b_tuple_lst, strK_str, m_sw, fk_sh, fk_fr, fk_ex, fl_ok, fl_ex, lfl_ok, lfl_ex, fc_b, fc_ex, seq_nx, seq_rt, seq_ex, seq_bk, seq_ct, ofFl_rt, ofFl_nx, ofFl_ex, turn_nx, turn_ct, turn_bk, turn_rt, turn_ex, it_lst, it_tup, it_str, it_rng1, it_rng2, it_enum, cmpR_eq c_ne_bl, cmpR_eq c_eq_bl, List.length_cons, List.length_nil, Nat.zero_add, Nat.reduceAdd, Nat.reduceLeDiff, BEq.rfl, clr, slots, Option.map, tgB, List.set_cons_zero, List.set_cons_succ, calR, toSl, Bool.false_eq_true, if_false, if_true, rtlR, frzL, frz1, List.foldl_cons, List.foldl_nil, owOf, ownK, lstK, appP, owS, raiR, tupR, lstR, Bool.not_true, Bool.not_false, nobF, ofF, ty_int0, ty_int1, ty_int2, ty_int3, ty_int4, is23_int, ty_str0, ty_str1, ty_str2, ty_str3, ty_str4, is23_str, ty_lst0, ty_lst1, ty_lst2, ty_lst3, ty_lst4, is23_lst, ty_tup0, ty_tup1, ty_tup2, ty_tup3, ty_tup4, is23_tup, ty_bl0, ty_bl1, ty_bl2, ty_bl3, ty_bl4, is23_bl, ty_non0, ty_non1, ty_non2, ty_non3, ty_non4, is23_non, h1, sub_lst, h2]
theorem int_mod (c : Int) (ha : isInt (ev X false a env) A) (hc : 0 < c) : isInt (ev X false (.bin .mod a (.cst (.int c))) env) c := by
  obtain ⟨i, h1, h2, h3⟩ := ha
  refine ⟨i % c, ?_, Int.emod_nonneg _ (by omega), Int.emod_lt_of_pos _ hc⟩
  simp -implicitDefEqProofs only [execs, exec, ev, evs, evC, evP, execM, List.getElem?_cons_zero, List.getElem?_cons_succ, sl_sh, sl_ow, sl_sht, sl_owt, fin_f, fin_t, cons_sh, cons_fr, cons_bo, cons_ex, cons_ok_ex, lbind_ok, lbind_ex, bind_ok, bind_ex, cond_b, kp_sh, kp_fr, kp_ex, tru_bl, tru_ex, tru_lst, tru_str, ofB_some', ofV_some, ofO_some, nox_ok, chnR_eq c_le_int, cmpR_eq c_le_int, cmpR_eq c_lt_int, cmpR_eq c_ge_int, cmpR_eq c_gt_int, cmpR_eq c_eq_int, cmpR_eq c_ne_int, cmpR_eq c_eq_str, cmpR_eq c_ne_str, cmpR_eq c_in_sgn, cmpR_eq c_nin_sgn, cmpR_eq c_is_non, cmpR_eq c_isnot_non, b_len_lst, b_len_tup, b_len_cdt, b_len_str, b_all, b_int_int, b_int_bl, b_int_str, b_str_int, b_str_str, b_isinst, b_list_lst, b_list_dct, b_tuple_lst, strK_str, m_sw, fk_sh, fk_fr, fk_ex, fl_ok, fl_ex, lfl_ok, lfl_ex, fc_b, fc_ex, seq_nx, seq_rt, seq_ex, seq_bk, seq_ct, ofFl_rt, ofFl_nx, ofFl_ex, turn_nx, turn_ct, turn_bk, turn_rt, turn_ex, it_lst, it_tup, it_str, it_rng1, it_rng2, it_enum, cmpR_eq c_ne_bl, cmpR_eq c_eq_bl, List.length_cons, List.length_nil, Nat.zero_add, Nat.reduceAdd, Nat.reduceLeDiff, BEq.rfl, clr, slots, Option.map, tgB, List.set_cons_zero, List.set_cons_succ, calR, toSl, Bool.false_eq_true, if_false, if_true, rtlR, frzL, frz1, List.foldl_cons, List.foldl_nil, owOf, ownK, lstK, appP, owS, raiR, tupR, lstR, Bool.not_true, Bool.not_false, nobF, ofF, ty_int0, ty_int1, ty_int2, ty_int3, ty_int4, is23_int, ty_str0, ty_str1, ty_str2, ty_str3, ty_str4, is23_str, ty_lst0, ty_lst1, ty_lst2, ty_lst3, ty_lst4, is23_lst, ty_tup0, ty_tup1, ty_tup2, ty_tup3, ty_tup4, is23_tup, ty_bl0, ty_bl1, ty_bl2, ty_bl3, ty_bl4, is23_bl, ty_non0, ty_non1, ty_non2, ty_non3, ty_non4, is23_non, h1, modx (show decide (0 < c) = true by simpa using hc)]
theorem int_div (c : Int) (ha : isInt (ev X false a env) A) (hc : (0 < c && c < 1073741824 : Bool) = true) (hA : A ≤ B * c) : isInt (ev X false (.bin .fdiv a (.cst (.int c))) env) B := by
  obtain ⟨i, h1, h2, h3⟩ := ha
  have h4 : 0 < c := by simp -implicitDefEqProofs only [Bool.and_eq_true, decide_eq_true_eq] at hc; exact hc.1
  refine ⟨i / c, ?_, Int.ediv_nonneg h2 (by omega), Int.ediv_lt_of_lt_mul h4 (by omega)⟩
  simp -implicitDefEqProofs only [execs, exec, ev, evs, evC, evP, execM, List.getElem?_cons_zero, List.getElem?_cons_succ, sl_sh, sl_ow, sl_sht, sl_owt, fin_f, fin_t, cons_sh, cons_fr, cons_bo, cons_ex, cons_ok_ex, lbind_ok, lbind_ex, bind_ok, bind_ex, cond_b, kp_sh, kp_fr, kp_ex, tru_bl, tru_ex, tru_lst, tru_str, ofB_some', ofV_some, ofO_some, nox_ok, chnR_eq c_le_int, cmpR_eq c_le_int, cmpR_eq c_lt_int, cmpR_eq c_ge_int, cmpR_eq c_gt_int, cmpR_eq c_eq_int, cmpR_eq c_ne_int, cmpR_eq c_eq_str, cmpR_eq c_ne_str, cmpR_eq c_in_sgn, cmpR_eq c_nin_sgn, cmpR_eq c_is_non, cmpR_eq c_isnot_non, b_len_lst, b_len_tup, b_len_cdt, b_len_str, b_all, b_int_int, b_int_bl, b_int_str, b_str_int, b_str_str, b_isinst, b_list_lst, b_list_dct, b_tuple_lst, strK_str, m_sw, fk_sh, fk_fr, fk_ex, fl_ok, fl_ex, lfl_ok, lfl_ex, fc_b, fc_ex, seq_nx, seq_rt, seq_ex, seq_bk, seq_ct, ofFl_rt, ofFl_nx, ofFl_ex, turn_nx, turn_ct, turn_bk, turn_rt, turn_ex, it_lst, it_tup, it_str, it_rng1, it_rng2, it_enum, cmpR_eq c_ne_bl, cmpR_eq c_eq_bl, List.length_cons, List.length_nil, Nat.zero_add, Nat.reduceAdd, Nat.reduceLeDiff, BEq.rfl, clr, slots, Option.map, tgB, List.set_cons_zero, List.set_cons_succ, calR, toSl, Bool.false_eq_true, if_false, if_true, rtlR, frzL, frz1, List.foldl_cons, List.foldl_nil, owOf, ownK, lstK, appP, owS, raiR, tupR, lstR, Bool.not_true, Bool.not_false, nobF, ofF, ty_int0, ty_int1, ty_int2, ty_int3, ty_int4, is23_int, ty_str0, ty_str1, ty_str2, ty_str3, ty_str4, is23_str, ty_lst0, ty_lst1, ty_lst2, ty_lst3, ty_lst4, is23_lst, ty_tup0, ty_tup1, ty_tup2, ty_tup3, ty_tup4, is23_tup, ty_bl0, ty_bl1, ty_bl2, ty_bl3, ty_bl4, is23_bl, ty_non0, ty_non1, ty_non2, ty_non3, ty_non4, is23_non, h1, divx hc]
theorem int_add (ha : isInt (ev X false a env) A) (hb : isInt (ev X false b env) B) (hC : A + B - 1 ≤ C) : isInt (ev X false (.bin .add a b) env) C := by
  obtain ⟨i, h1, h2, h3⟩ := ha
  obtain ⟨j, h4, h5, h6⟩ := hb
  refine ⟨i + j, ?_, by omega, by omega⟩
  simp -implicitDefEqProofs only [execs, exec, ev, evs, evC, evP, execM, List.getElem?_cons_zero, List.getElem?_cons_succ, sl_sh, sl_ow, sl_sht, sl_owt, fin_f, fin_t, cons_sh, cons_fr, cons_bo, cons_ex, cons_ok_ex, lbind_ok, lbind_ex, bind_ok, bind_ex, cond_b, kp_sh, kp_fr, kp_ex, tru_bl, tru_ex, tru_lst, tru_str, ofB_some', ofV_some, ofO_some, nox_ok, chnR_eq c_le_int, cmpR_eq c_le_int, cmpR_eq c_lt_int, cmpR_eq c_ge_int, cmpR_eq c_gt_int, cmpR_eq c_eq_int, cmpR_eq c_ne_int, cmpR_eq c_eq_str, cmpR_eq c_ne_str, cmpR_eq c_in_sgn, cmpR_eq c_nin_sgn, cmpR_eq c_is_non, cmpR_eq c_isnot_non, b_len_lst, b_len_tup, b_len_cdt, b_len_str, b_all, b_int_int, b_int_bl, b_int_str, b_str_int, b_str_str, b_isinst, b_list_lst, b_list_dct, b_tuple_lst, strK_str, m_sw, fk_sh, fk_fr, fk_ex, fl_ok, fl_ex, lfl_ok, lfl_ex, fc_b, fc_ex, seq_nx, seq_rt, seq_ex, seq_bk, seq_ct, ofFl_rt, ofFl_nx, ofFl_ex, turn_nx, turn_ct, turn_bk, turn_rt, turn_ex, it_lst, it_tup, it_str, it_rng1, it_rng2, it_enum, cmpR_eq c_ne_bl, cmpR_eq c_eq_bl, List.length_cons, List.length_nil, Nat.zero_add, Nat.reduceAdd, Nat.reduceLeDiff, BEq.rfl, clr, slots, Option.map, tgB, List.set_cons_zero, List.set_cons_succ, calR, toSl, Bool.false_eq_true, if_false, if_true, rtlR, frzL, frz1, List.foldl_cons, List.foldl_nil, owOf, ownK, lstK, appP, owS, raiR, tupR, lstR, Bool.not_true, Bool.not_false, nobF, ofF, ty_int0, ty_int1, ty_int2, ty_int3, ty_int4, is23_int, ty_str0, ty_str1, ty_str2, ty_str3, ty_str4, is23_str, ty_lst0, ty_lst1, ty_lst2, ty_lst3, ty_lst4, is23_lst, ty_tup0, ty_tup1, ty_tup2, ty_tup3, ty_tup4, is23_tup, ty_bl0, ty_bl1, ty_bl2, ty_bl3, ty_bl4, is23_bl, ty_non0, ty_non1, ty_non2, ty_non3, ty_non4, is23_non, h1, h4, addx]
theorem inl_nil : isInl (evs X .nil env) 0 B := ⟨[], rfl, rfl, fun y h => by cases h⟩
theorem inl_cons (ha : isInt (ev X false a env) B) (hs : isInl (evs X es env) k B) : isInl (evs X (.cons a es) env) (k + 1) B := by
  obtain ⟨s, h1, h2, h2'⟩ := ha
  obtain ⟨t, h3, h4, h5⟩ := hs
  refine ⟨s :: t, ?_, by simp [h4], fun y hy => ?_⟩
  · simp -implicitDefEqProofs only [execs, exec, ev, evs, evC, evP, execM, List.getElem?_cons_zero, List.getElem?_cons_succ, sl_sh, sl_ow, sl_sht, sl_owt, fin_f, fin_t, cons_sh, cons_fr, cons_bo, cons_ex, cons_ok_ex, lbind_ok, lbind_ex, bind_ok, bind_ex, cond_b, kp_sh, kp_fr, kp_ex, tru_bl, tru_ex, tru_lst, tru_str, ofB_some', ofV_some, ofO_some, nox_ok, chnR_eq c_le_int, cmpR_eq c_le_int, cmpR_eq c_lt_int, cmpR_eq c_ge_int, cmpR_eq c_gt_int, cmpR_eq c_eq_int, cmpR_eq c_ne_int, cmpR_eq c_eq_str, cmpR_eq c_ne_str, cmpR_eq c_in_sgn, cmpR_eq c_nin_sgn, cmpR_eq c_is_non, cmpR_eq c_isnot_non, b_len_lst, b_len_tup, b_len_cdt, b_len_str, b_all, b_int_int, b_int_bl, b_int_str, b_str_int, b_str_str, b_isinst, b_list_lst, b_list_dct, b_tuple_lst, strK_str, m_sw, fk_sh, fk_fr, fk_ex, fl_ok, fl_ex, lfl_ok, lfl_ex, fc_b, fc_ex, seq_nx, seq_rt, seq_ex, seq_bk, seq_ct, ofFl_rt, ofFl_nx, ofFl_ex, turn_nx, turn_ct, turn_bk, turn_rt, turn_ex, it_lst, it_tup, it_str, it_rng1, it_rng2, it_enum, cmpR_eq c_ne_bl, cmpR_eq c_eq_bl, List.length_cons, List.length_nil, Nat.zero_add, Nat.reduceAdd, Nat.reduceLeDiff, BEq.rfl, clr, slots, Option.map, tgB, List.set_cons_zero, List.set_cons_succ, calR, toSl, Bool.false_eq_true, if_false, if_true, rtlR, frzL, frz1, List.foldl_cons, List.foldl_nil, owOf, ownK, lstK, appP, owS, raiR, tupR, lstR, Bool.not_true, Bool.not_false, nobF, ofF, ty_int0, ty_int1, ty_int2, ty_int3, ty_int4, is23_int, ty_str0, ty_str1, ty_str2, ty_str3, ty_str4, is23_str, ty_lst0, ty_lst1, ty_lst2, ty_lst3, ty_lst4, is23_lst, ty_tup0, ty_tup1, ty_tup2, ty_tup3, ty_tup4, is23_tup, ty_bl0, ty_bl1, ty_bl2, ty_bl3, ty_bl4, is23_bl, ty_non0, ty_non1, ty_non2, ty_non3, ty_non4, is23_non, h1, h3, List.map_cons]
  · rcases List.mem_cons.mp hy with rfl | hy
    · exact ⟨h2, h2'⟩
    · exact h5 y hy
theorem int_pick (hs : isInl (evs X es env) k B) (hk : k ≤ 100000) (h2 : isInt (ev X false e env) (k : Int)) : isInt (ev X false (.sub (.lst es) e) env) B := by
  obtain ⟨t, e1, e2, e3⟩ := hs
  obtain ⟨j, h2, h3, h4⟩ := h2
  obtain ⟨x, hx, e4⟩ := atP_lt (t.map PV.int) j h3 (by simp -implicitDefEqProofs only [List.length_map]; omega)
  obtain ⟨y, hy, rfl⟩ := List.mem_map.mp hx
  refine ⟨y, ?_, e3 y hy⟩
  have e5 : lstR true (t.map PV.int) = .ok .fr (.lst (t.map .int)) := if_pos (by simp -implicitDefEqProofs only [List.length_map]; omega)
  simp -implicitDefEqProofs only [ev, evs, fin_f, e1, lbind_ok, e5, bind_ok, h2, sub_lst, e4, ofV_some]
end
theorem p17 : binP .pow (.int 10) (.int 17) = .ok .sh (.int 100000000000000000) := by simp [binP, small]
theorem cutLast (xs : List PV) (k : Nat) (h : k ≤ xs.length) (hk : 0 < k) : cut xs (some (-(k : Int))) none = xs.drop (xs.length - k) := by
  unfold cut clp
  simp only
  rw [if_pos (by omega)]
  have e : (-(k : Int) + (xs.length : Int)).toNat = xs.length - k := by omega
  rw [e]
  apply List.take_of_length_le
  simp
theorem lawN_len (a c : Int) (n : Nat) : (lawN a c n).length = n := by simp [lawN]
theorem lawN_mem {a c : Int} {n : Nat} {x : Int} (h : x ∈ lawN a c n) : 0 ≤ x ∧ x < 1009 := by
  unfold lawN at h
  obtain ⟨k, _, rfl⟩ := List.mem_map.mp h
  exact numN_lt a c k
/-- the last eight -/
theorem last8 (a c : Int) (n : Nat) (h : 8 ≤ n) : ∃ n0 n1 n2 n3 n4 n5 n6 n7 : Int, cut ((lawN a c n).map PV.int) (some (-8)) none = [n0, n1, n2, n3, n4, n5, n6, n7].map .int ∧ ∀ x ∈ [n0, n1, n2, n3, n4, n5, n6, n7], 0 ≤ x ∧ x < 1009 := by
  have e := cutLast ((lawN a c n).map PV.int) 8 (by simpa [lawN_len] using h) (by decide)
  have e2 : (some (-((8 : Nat) : Int)) : Option Int) = some (-8) := rfl
  rw [e2, ← List.map_drop] at e
  rw [e]
  have hl : ((lawN a c n).drop (((lawN a c n).map PV.int).length - 8)).length = 8 := by simp [lawN_len]; omega
  have hm : ∀ x ∈ (lawN a c n).drop (((lawN a c n).map PV.int).length - 8), 0 ≤ x ∧ x < 1009 := fun x hx => lawN_mem (List.mem_of_mem_drop hx)
  generalize (lawN a c n).drop (((lawN a c n).map PV.int).length - 8) = L at hl hm
  match L, hl with
  | [n0, n1, n2, n3, n4, n5, n6, n7], _ => exact ⟨n0, n1, n2, n3, n4, n5, n6, n7, rfl, hm⟩
theorem joinS_single {α : Type} (h : α → Nat) : ∀ zs : List α, joinS [] (zs.map fun n => [h n]) = zs.map h
  | [] => rfl
  | [x] => rfl
  | x :: y :: r => by
    have ih := joinS_single h (y :: r)
    simp -implicitDefEqProofs only [List.map_cons, joinS, List.nil_append, List.singleton_append] at ih ⊢
    rw [ih]
theorem hasK_str (w : List Nat) (kl : List (List Nat)) : hasK (.str w) (kl.map .str) = decide (w ∈ kl) := by
  unfold hasK
  rw [Bool.eq_iff_iff]
  simp [eqv]
theorem eqv_pair (a b : Nat × Nat) : eqv (pairV a) (pairV b) = decide (a = b) := by
  rw [Bool.eq_iff_iff]
  simp -implicitDefEqProofs only [pairV, eqv, eqvs, Bool.and_true, Bool.and_eq_true, decide_eq_true_eq, beq_iff_eq]
  constructor
  · rintro ⟨h1, h2⟩
    exact Prod.ext (by omega) (by omega)
  · rintro rfl
    exact ⟨rfl, rfl⟩
theorem hasK_pair (w : Nat × Nat) (kl : List (Nat × Nat)) : hasK (pairV w) (kl.map pairV) = decide (w ∈ kl) := by
  unfold hasK
  rw [Bool.eq_iff_iff]
  simp [eqv_pair]
theorem alk_words (kl : List (List Nat)) : alkAll (kl.map .str) = true := by
  have h1 : plains (kl.map PV.str) = true := by induction kl with
    | nil => rfl
    | cons k kl ih => simp [plains, plain, ih]
  have h2 : deps (kl.map PV.str) = 0 := by induction kl with
    | nil => rfl
    | cons k kl ih => simp [deps, dep]; simpa [deps] using ih (by simpa [plains, plain] using h1)
  unfold alkAll
  simp [h1, h2, noTup, alk]
theorem alk_pairs (kl : List (Nat × Nat)) : alkAll (kl.map pairV) = true := by
  have h1 : plains (kl.map pairV) = true := by induction kl with
    | nil => rfl
    | cons k kl ih => simp [plains, plain, pairV] at ih ⊢; exact ih
  have h2 : deps (kl.map pairV) ≤ 1 := by induction kl with
    | nil => simp [deps]
    | cons k kl ih => simp [deps, dep, pairV] at ih ⊢; have := ih (by simpa [plains, plain, pairV] using h1); omega
  have h3 : deps (kl.map pairV) ≤ 32 := by omega
  unfold alkAll
  simp [h1, h3, isTup, alk, alks, pairV]
def addIf {α : Type} [DecidableEq α] (w : α) (kl : List α) : List α := if w ∈ kl then kl else kl ++ [w]
theorem put_word (w : List Nat) (kl : List (List Nat)) (vs : List PV) (v : PV) (h : kl.length < LL) : ∃ vs', putP (.dct false (kl.map .str) vs) (.str w) v = some (.dct false ((addIf w kl).map .str) vs') := by
  refine ⟨putVs (.str w) v (kl.map .str) vs, ?_⟩
  show (if keyOk false (.str w) && decide ((kl.map PV.str).length < LL) then some _ else none) = _
  rw [if_pos (by simpa [keyOk] using h)]
  congr 2
  unfold putKs addIf
  rw [hasK_str]
  by_cases hm : w ∈ kl <;> simp [hm]
theorem put_pair (w : Nat × Nat) (kl : List (Nat × Nat)) (vs : List PV) (v : PV) (h : kl.length < LL) : ∃ vs', putP (.dct true (kl.map pairV) vs) (pairV w) v = some (.dct true ((addIf w kl).map pairV) vs') := by
  refine ⟨putVs (pairV w) v (kl.map pairV) vs, ?_⟩
  show (if keyOk true (pairV w) && decide ((kl.map pairV).length < LL) then some _ else none) = _
  rw [if_pos (by simpa [keyOk, pairV] using h)]
  congr 2
  unfold putKs addIf
  rw [hasK_pair]
  by_cases hm : w ∈ kl <;> simp [hm]
theorem add_nodup {α : Type} [DecidableEq α] (w : α) (kl : List α) (h : kl.Nodup) : (addIf w kl).Nodup := by
  unfold addIf
  split
  · exact h
  · rename_i hm
    rw [List.nodup_append]
    exact ⟨h, by simp, fun a ha b hb => by simp at hb; subst hb; intro e; subst e; exact hm ha⟩
theorem add_len {α : Type} [DecidableEq α] (w : α) (kl : List α) : (addIf w kl).length ≤ kl.length + 1 := by unfold addIf; split <;> simp
theorem add_mem {α : Type} [DecidableEq α] {w x : α} {kl : List α} (h : x ∈ addIf w kl) : x = w ∨ x ∈ kl := by
  unfold addIf at h
  split at h
  · exact .inr h
  · rcases List.mem_append.mp h with h | h
    · exact .inr h
    · exact .inl (by simpa using h)
end EV
set_option Elab.async false
set_option linter.all false
set_option maxRecDepth 100000
set_option maxHeartbeats 2000000
/-! PL6: walks that stop at the first bad one; rows of numbers. -/
namespace EV
open PySem
theorem for_scan' {f : PV → Env → Fl} {cl : List Nat} {E E1 : Nat → Env} {g : Nat → PV} {bad : Nat → Bool} {R : Nat → Fl} (hR : ∀ j k, (R j).turn cl k = R j) : ∀ (n k : Nat), (∀ j, k ≤ j → j < k + n → f (g j) (E j) = if bad j then R j else .nx (E1 j)) → (∀ j, k ≤ j → j < k + n → bad j = false → clr (E1 j) cl = E (j + 1)) →
    forT f cl ((List.range' k n).map g) (E k) = match (List.range' k n).find? bad with
      | some i => R i
      | none => .nx (E (k + n))
  | 0, k, _, _ => rfl
  | n + 1, k, h, hc => by
    have ih := for_scan' (f := f) (E := E) (E1 := E1) (g := g) (bad := bad) hR n (k + 1) (fun j h1 h2 => h j (by omega) (by omega)) (fun j h1 h2 => hc j (by omega) (by omega))
    have h1 := h k (Nat.le_refl _) (by omega)
    simp -implicitDefEqProofs only [List.range'_succ, List.map_cons, forT, h1, List.find?_cons]
    cases hb : bad k with
    | true => simp -implicitDefEqProofs only [if_true, hR]
    | false =>
      have h2 := hc k (Nat.le_refl _) (by omega) hb
      have e : k + (n + 1) = k + 1 + n := by omega
      simp -implicitDefEqProofs only [Bool.false_eq_true, if_false, turn_nx, h2, ih, e]
theorem for_scan {f : PV → Env → Fl} {cl : List Nat} (E E1 : Nat → Env) {g : Nat → PV} (bad : Nat → Bool) (R : Nat → Fl) (n : Nat) {e0 : Env} (he : e0 = E 0) (hR : ∀ j k, (R j).turn cl k = R j) (h : ∀ j, j < n → f (g j) (E j) = if bad j then R j else .nx (E1 j)) (hc : ∀ j, j < n → bad j = false → clr (E1 j) cl = E (j + 1)) :
    forT f cl ((List.range n).map g) e0 = match (List.range n).find? bad with
      | some i => R i
      | none => .nx (E n) := by
  have h1 := for_scan' (f := f) (g := g) hR n 0 (fun j _ h2 => h j (by omega)) (fun j _ h2 => hc j (by omega))
  rw [he, List.range_eq_range', h1, Nat.zero_add]
/-- for i in range(n), that stops at the first bad one -/
theorem for_rng {X : EC} {env : Env} {i : Nat} {srcs : IRs} {bd : Ss} {cl : List Nat} (n : Nat) (hs : evs X srcs env = .ok true [.int (n : Int)]) (hn : n ≤ 8000000) (E E1 : Nat → Env) (bad : Nat → Bool) (R : Nat → Fl) (he : env = E 0) (hR : ∀ j k, (R j).turn cl k = R j)
    (h : ∀ j, j < n → execs X bd ((E j).set i (.sh (.int (j : Int)))) = if bad j then R j else .nx (E1 j)) (hc : ∀ j, j < n → bad j = false → clr (E1 j) cl = E (j + 1)) : exec X (.for (.v i) .rng srcs bd cl) env = match (List.range n).find? bad with
      | some i => R i
      | none => .nx (E n) := by
  simp -implicitDefEqProofs only [exec, hs, lfl_ok, it_rng1, inR_nat hn, if_true, Option.map_some, ofF, nobF, rng_nat]
  exact for_scan E E1 bad R n he hR (fun j hj => h j hj) hc
theorem for_rngA {X : EC} {env : Env} {i : Nat} {srcs : IRs} {bd : Ss} {cl : List Nat} (n : Nat) (hs : evs X srcs env = .ok true [.int (n : Int)]) (hn : n ≤ 8000000) (E E1 : Nat → Env) (he : env = E 0)
    (h : ∀ j, j < n → execs X bd ((E j).set i (.sh (.int (j : Int)))) = .nx (E1 j)) (hc : ∀ j, j < n → clr (E1 j) cl = E (j + 1)) : exec X (.for (.v i) .rng srcs bd cl) env = .nx (E n) := by
  rw [for_rng n hs hn E E1 (fun _ => false) (fun _ => .bad) he (fun _ _ => rfl) (fun j hj => by rw [h j hj]; rfl) (fun j hj _ => hc j hj)]
  have e : (List.range n).find? (fun _ => false) = none := by simp
  rw [e]
/-- .. by an invariant -/
theorem for_rngI {X : EC} {env : Env} {i : Nat} {srcs : IRs} {bd : Ss} {cl : List Nat} (n : Nat) (hs : evs X srcs env = .ok true [.int (n : Int)]) (hn : n ≤ 8000000) (I : Nat → Env → Prop) (h0 : I 0 env)
    (h : ∀ j, j < n → ∀ e, I j e → ∃ e', execs X bd (e.set i (.sh (.int (j : Int)))) = .nx e' ∧ I (j + 1) (clr e' cl)) : ∃ e', exec X (.for (.v i) .rng srcs bd cl) env = .nx e' ∧ I n e' := by
  simp -implicitDefEqProofs only [exec, hs, lfl_ok, it_rng1, inR_nat hn, if_true, Option.map_some, ofF, nobF, rng_nat]
  exact for_inv I n env h0 (fun j hj e he => h j hj e he)
def atBad {α : Type} (p : α → Bool) (xs : List α) (i : Nat) : Bool := match xs[i]? with | some x => p x | none => false
theorem atBad_lt {α : Type} (p : α → Bool) (xs : List α) (i : Nat) (h : i < xs.length) : atBad p xs i = p xs[i] := by
  unfold atBad
  rw [List.getElem?_eq_getElem h]
theorem app_step {X : EC} {env : Env} {i : Nat} {e : IR} {xs : List PV} {v : PV} {m : Md} (h1 : env[i]? = some (.ow (.lst xs))) (hl : xs.length < LL) (h2 : ev X false e env = .ok m v) (hm : m ≠ .bo) : execs X (.cons (.app i e) .nil) env = .nx (env.set i (.ow (.lst (xs ++ [v])))) := by
  cases m with
  | bo => exact absurd rfl hm
  | sh => simp -implicitDefEqProofs only [execs, exec, ev, evs, evC, evP, execM, List.getElem?_cons_zero, List.getElem?_cons_succ, sl_sh, sl_ow, sl_sht, sl_owt, fin_f, fin_t, cons_sh, cons_fr, cons_bo, cons_ex, cons_ok_ex, lbind_ok, lbind_ex, bind_ok, bind_ex, cond_b, kp_sh, kp_fr, kp_ex, tru_bl, tru_ex, tru_lst, tru_str, ofB_some', ofV_some, ofO_some, nox_ok, chnR_eq c_le_int, cmpR_eq c_le_int, cmpR_eq c_lt_int, cmpR_eq c_ge_int, cmpR_eq c_gt_int, cmpR_eq c_eq_int, cmpR_eq c_ne_int, cmpR_eq c_eq_str, cmpR_eq c_ne_str, cmpR_eq c_in_sgn, cmpR_eq c_nin_sgn, cmpR_eq c_is_non, cmpR_eq c_isnot_non, b_len_lst, b_len_tup, b_len_cdt, b_len_str, b_all, b_int_int, b_int_bl, b_int_str, b_str_int, b_str_str, b_isinst, b_list_lst, b_list_dct, b_tuple_lst, strK_str, m_sw, fk_sh, fk_fr, fk_ex, fl_ok, fl_ex, lfl_ok, lfl_ex, fc_b, fc_ex, seq_nx, seq_rt, seq_ex, seq_bk, seq_ct, ofFl_rt, ofFl_nx, ofFl_ex, turn_nx, turn_ct, turn_bk, turn_rt, turn_ex, it_lst, it_tup, it_str, it_rng1, it_rng2, it_enum, cmpR_eq c_ne_bl, cmpR_eq c_eq_bl, List.length_cons, List.length_nil, Nat.zero_add, Nat.reduceAdd, Nat.reduceLeDiff, BEq.rfl, clr, slots, Option.map, tgB, List.set_cons_zero, List.set_cons_succ, calR, toSl, Bool.false_eq_true, if_false, if_true, rtlR, frzL, frz1, List.foldl_cons, List.foldl_nil, owOf, ownK, lstK, appP, owS, raiR, tupR, lstR, Bool.not_true, Bool.not_false, nobF, ofF, ty_int0, ty_int1, ty_int2, ty_int3, ty_int4, is23_int, ty_str0, ty_str1, ty_str2, ty_str3, ty_str4, is23_str, ty_lst0, ty_lst1, ty_lst2, ty_lst3, ty_lst4, is23_lst, ty_tup0, ty_tup1, ty_tup2, ty_tup3, ty_tup4, is23_tup, ty_bl0, ty_bl1, ty_bl2, ty_bl3, ty_bl4, is23_bl, ty_non0, ty_non1, ty_non2, ty_non3, ty_non4, is23_non, h1, h2, hl]
  | fr => simp -implicitDefEqProofs only [execs, exec, ev, evs, evC, evP, execM, List.getElem?_cons_zero, List.getElem?_cons_succ, sl_sh, sl_ow, sl_sht, sl_owt, fin_f, fin_t, cons_sh, cons_fr, cons_bo, cons_ex, cons_ok_ex, lbind_ok, lbind_ex, bind_ok, bind_ex, cond_b, kp_sh, kp_fr, kp_ex, tru_bl, tru_ex, tru_lst, tru_str, ofB_some', ofV_some, ofO_some, nox_ok, chnR_eq c_le_int, cmpR_eq c_le_int, cmpR_eq c_lt_int, cmpR_eq c_ge_int, cmpR_eq c_gt_int, cmpR_eq c_eq_int, cmpR_eq c_ne_int, cmpR_eq c_eq_str, cmpR_eq c_ne_str, cmpR_eq c_in_sgn, cmpR_eq c_nin_sgn, cmpR_eq c_is_non, cmpR_eq c_isnot_non, b_len_lst, b_len_tup, b_len_cdt, b_len_str, b_all, b_int_int, b_int_bl, b_int_str, b_str_int, b_str_str, b_isinst, b_list_lst, b_list_dct, b_tuple_lst, strK_str, m_sw, fk_sh, fk_fr, fk_ex, fl_ok, fl_ex, lfl_ok, lfl_ex, fc_b, fc_ex, seq_nx, seq_rt, seq_ex, seq_bk, seq_ct, ofFl_rt, ofFl_nx, ofFl_ex, turn_nx, turn_ct, turn_bk, turn_rt, turn_ex, it_lst, it_tup, it_str, it_rng1, it_rng2, it_enum, cmpR_eq c_ne_bl, cmpR_eq c_eq_bl, List.length_cons, List.length_nil, Nat.zero_add, Nat.reduceAdd, Nat.reduceLeDiff, BEq.rfl, clr, slots, Option.map, tgB, List.set_cons_zero, List.set_cons_succ, calR, toSl, Bool.false_eq_true, if_false, if_true, rtlR, frzL, frz1, List.foldl_cons, List.foldl_nil, owOf, ownK, lstK, appP, owS, raiR, tupR, lstR, Bool.not_true, Bool.not_false, nobF, ofF, ty_int0, ty_int1, ty_int2, ty_int3, ty_int4, is23_int, ty_str0, ty_str1, ty_str2, ty_str3, ty_str4, is23_str, ty_lst0, ty_lst1, ty_lst2, ty_lst3, ty_lst4, is23_lst, ty_tup0, ty_tup1, ty_tup2, ty_tup3, ty_tup4, is23_tup, ty_bl0, ty_bl1, ty_bl2, ty_bl3, ty_bl4, is23_bl, ty_non0, ty_non1, ty_non2, ty_non3, ty_non4, is23_non, h1, h2, hl]
theorem findIdx_range {α : Type} (p : α → Bool) (xs : List α) : xs.findIdx? p = (List.range xs.length).find? (atBad p xs) := by
  cases h : xs.findIdx? p with
  | none =>
    symm
    rw [List.find?_range_eq_none]
    intro i hi
    rw [List.findIdx?_eq_none_iff] at h
    simp [atBad_lt p xs i hi, h _ (List.getElem_mem hi)]
  | some i =>
    symm
    rw [List.findIdx?_eq_some_iff_getElem] at h
    obtain ⟨hi, h1, h2⟩ := h
    rw [List.find?_range_eq_some]
    refine ⟨by rw [atBad_lt p xs i hi]; exact h1, by simpa using hi, fun j hj => ?_⟩
    have := h2 j hj
    simpa [atBad_lt p xs j (show j < xs.length by omega)] using this
def isNone' {α : Type} : Option α → Bool
  | none => true
  | some _ => false
theorem numsOf_map (ss : List (List Nat)) : numsOf ss = if (ss.map rdNum).any isNone' then none else some ((ss.map rdNum).map (·.getD 0)) := by
  induction ss with
  | nil => rfl
  | cons s ss ih =>
    simp -implicitDefEqProofs only [numsOf, ih, List.map_cons, List.any_cons]
    cases h1 : rdNum s with
    | none => simp [isNone']
    | some n =>
      cases h2 : (ss.map rdNum).any isNone' <;> simp [isNone']
theorem nonIn (os : List (Option Nat)) : cmpP .isin .non (.lst (os.map oN)) = some (os.any isNone') := by
  have h1 : plains (os.map oN) = true := by induction os with
    | nil => rfl
    | cons o os ih => cases o <;> simp [plains, plain, oN, ih]
  have h2 : deps (os.map oN) = 0 := by induction os with
    | nil => rfl
    | cons o os ih =>
      have := ih (by induction os with
        | nil => rfl
        | cons o os ih => cases o <;> simp_all [plains, plain, oN])
      cases o <;> simp [deps, dep, oN, this]
  have h3 : inP .non (os.map oN) = os.any isNone' := by
    unfold inP
    rw [List.any_map]
    congr 1
    funext o
    cases o <;> simp [oN, eqv, isNone']
  simp [cmpP, plain, dep, h1, h2, h3]
theorem oN_all (os : List (Option Nat)) (h : os.any isNone' = false) : os.map oN = (os.map (·.getD 0)).map fun (n : Nat) => .int (n : Int) := by
  rw [List.map_map]
  apply List.map_congr_left
  intro o ho
  cases o with
  | none => rw [List.any_eq_false] at h; exact absurd rfl (h _ ho)
  | some n => rfl
/-- a row of numbers -/
def encL (r : List Nat) : PV := .lst (r.map fun (n : Nat) => .int (n : Int))
def oL : Option (List Nat) → PV
  | some r => encL r
  | none => .non
theorem isNon_oL (o : Option (List Nat)) : isNonP (oL o) = isNone' o := by cases o <;> rfl
theorem findIdx_map {α β : Type} (f : α → β) (p : β → Bool) (xs : List α) : (xs.map f).findIdx? p = xs.findIdx? (p ∘ f) := by
  induction xs with
  | nil => rfl
  | cons x xs ih => simp [List.findIdx?_cons, ih]
theorem allT_lt (r : List Nat) (n : Nat) : allT (r.map fun (x : Nat) => .bl (decide ((x : Int) < (n : Int)))) = some (r.all fun x => decide (x < n)) := by
  induction r with
  | nil => rfl
  | cons x r ih =>
    have e : decide ((x : Int) < (n : Int)) = decide (x < n) := decide_eq_decide.mpr Int.ofNat_lt
    simp -implicitDefEqProofs only [List.map_cons, allT, ih, Option.map_some, List.all_cons, e]
theorem filterT {α : Type} {f t : PV → Rs} (i : α → PV) (p : α → Bool) : ∀ (xs : List α) (acc : List PV), (∀ x ∈ xs, t (i x) = .ok .sh (.bl (p x))) → (∀ x ∈ xs, f (i x) = .ok .sh (i x)) → turns f t (xs.map i) acc = .ok .fr (.lst (acc ++ (xs.filter p).map i))
  | [], acc, _, _ => by simp [turns]
  | x :: xs, acc, h1, h2 => by
    have ih := fun acc => filterT i p xs acc (fun y hy => h1 y (List.mem_cons_of_mem _ hy)) (fun y hy => h2 y (List.mem_cons_of_mem _ hy))
    cases hp : p x <;> simp [turns, h1 x List.mem_cons_self, h2 x List.mem_cons_self, hp, Rs.cond, Rs.kp, ih]
theorem lc_filter {X : EC} {env : Env} {α : Type} {tg : Tg} {kk : IK} {src : IRs} {c elt : IR} (i : α → PV) (p : α → Bool) (xs : List α) {nb : Bool} {vs : List PV} (hs : evs X src env = .ok nb vs) (hi : itm kk vs = some (xs.map i))
    (he : ∀ x ∈ xs, ∃ e, tgB tg (i x) (clr env (slots tg)) = some e ∧ ev X true c e = .ok .sh (.bl (p x)) ∧ ev X false elt e = .ok .sh (i x)) : ev X false (.lc tg kk src (.cons c .nil) elt) env = .ok .fr (.lst ((xs.filter p).map i)) := by
  simp -implicitDefEqProofs only [ev, fin_f, hs, lbind_ok, hi, Option.map_some, ofO_some]
  rw [filterT i p xs [] (fun x hx => by
    obtain ⟨e, h1, h2, _⟩ := he x hx
    simp -implicitDefEqProofs only [h1, Option.map_some, ofO_some, evC, h2, nox_ok]) (fun x hx => by
    obtain ⟨e, h1, _, h2⟩ := he x hx
    simp -implicitDefEqProofs only [h1, Option.map_some, ofO_some, h2, nox_ok])]
  rw [List.nil_append]
theorem filt_all (r : List Nat) (n : Nat) : (!(r.filter fun x => decide (n ≤ x)).isEmpty) = !(r.all fun x => decide (x < n)) := by
  induction r with
  | nil => rfl
  | cons x r ih =>
    by_cases h : n ≤ x
    · have h' : ¬ x < n := by omega
      simp [h, h']
    · have h' : x < n := by omega
      simp -implicitDefEqProofs only [List.filter_cons, h, decide_false, Bool.false_eq_true, if_false, List.all_cons, h', decide_true, Bool.true_and]
      exact ih
def slK (n : Nat) : Nat → Sl
  | 0 => slI n
  | j + 1 => .sh (.int (j : Int))
theorem row_facts (r : List Nat) : plain (encL r) = true ∧ dep (encL r) ≤ 1 ∧ eqv (encL r) (encL r) = true := by
  have h : plains (r.map fun (n : Nat) => PV.int (n : Int)) = true ∧ deps (r.map fun (n : Nat) => PV.int (n : Int)) = 0 ∧ eqvs (r.map fun (n : Nat) => PV.int (n : Int)) (r.map fun (n : Nat) => PV.int (n : Int)) = true := by
    induction r with
    | nil => exact ⟨rfl, rfl, rfl⟩
    | cons x r ih =>
      obtain ⟨a, b, c⟩ := ih
      simp [plains, plain, deps, dep, eqvs, eqv, a, b, c]
  obtain ⟨a, b, c⟩ := h
  simp [encL, plain, dep, eqv, a, b, c]
theorem ne_nil_row (r : List Nat) : cmpP .ne (encL r) (.lst []) = some (!r.isEmpty) := by
  obtain ⟨a, b, _⟩ := row_facts r
  have b' : dep (encL r) ≤ 32 := by omega
  unfold cmpP
  simp -implicitDefEqProofs only [a, b', plain, plains, dep, deps, decide_true, Bool.and_self, Bool.true_and]
  cases r <;> simp [encL, eqv, eqvs]
theorem rows_ne (rows : List (List Nat)) : cmpP .ne (.lst (rows.map encL)) (.lst (rows.map encL)) = some false := by
  have h : plains (rows.map encL) = true ∧ deps (rows.map encL) ≤ 1 ∧ eqvs (rows.map encL) (rows.map encL) = true := by
    induction rows with
    | nil => simp [plains, deps, eqvs]
    | cons x r ih =>
      obtain ⟨a, b, c⟩ := ih
      obtain ⟨a', b', c'⟩ := row_facts x
      simp [plains, deps, eqvs, a, c, a', c']
      omega
  obtain ⟨a, b, c⟩ := h
  have hd : deps (rows.map encL) + 1 ≤ 32 := by omega
  simp [cmpP, plain, dep, eqv, a, c, hd]
end EV
set_option Elab.async false
set_option linter.all false
set_option maxRecDepth 100000
set_option maxHeartbeats 2000000
/-! PL7: rows of numbers and texts; read lists that must ascend by a key. -/
namespace EV
open PySem
/-- for i in range(1, n), that stops at the first bad one -/
theorem for_rng1 {X : EC} {env : Env} {i : Nat} {srcs : IRs} {bd : Ss} {cl : List Nat} (n : Nat) (hs : evs X srcs env = .ok true [.int 1, .int (n : Int)]) (hn : n ≤ 8000000) (E E1 : Nat → Env) (bad : Nat → Bool) (R : Nat → Fl) (he : env = E 0) (hR : ∀ j k, (R j).turn cl k = R j) (hb : bad 0 = false)
    (h : ∀ j, j + 1 < n → execs X bd ((E j).set i (.sh (.int ((j + 1 : Nat) : Int)))) = if bad (j + 1) then R (j + 1) else .nx (E1 j)) (hc : ∀ j, j + 1 < n → bad (j + 1) = false → clr (E1 j) cl = E (j + 1)) : exec X (.for (.v i) .rng srcs bd cl) env = match (List.range n).find? bad with
      | some i => R i
      | none => .nx (E (n - 1)) := by
  simp -implicitDefEqProofs only [exec, hs, lfl_ok, it_rng2, inR_1, inR_nat hn, Bool.and_self, if_true, Option.map_some, ofF, nobF, rng_1]
  have h1 := for_scan (f := fun x e => ofF ((tgB (.v i) x e).map fun e' => execs X bd e')) (cl := cl) (g := fun (i : Nat) => .int ((i + 1 : Nat) : Int)) E E1 (fun j => bad (j + 1)) (fun j => R (j + 1)) (n - 1) he (fun j k => hR (j + 1) k) (fun j hj => h j (by omega)) (fun j hj hb => hc j (by omega) hb)
  refine Eq.trans h1 ?_
  cases n with
  | zero => rfl
  | succ m =>
    rw [List.range_succ_eq_map, List.find?_cons, hb]
    simp -implicitDefEqProofs only [Nat.add_sub_cancel, List.find?_map]
    have e : (bad ∘ Nat.succ) = fun j => bad (j + 1) := rfl
    rw [e]
    cases (List.range m).find? fun j => bad (j + 1) <;> rfl
/-- the first bad one of a list that stands behind a head -/
theorem find_shift {α : Type} (p : α → Bool) (xs : List α) : (List.range (xs.length + 1)).find? (fun i => decide (0 < i) && atBad p xs (i - 1)) = (xs.findIdx? p).map (· + 1) := by
  rw [List.range_succ_eq_map, List.find?_cons]
  have e0 : (decide (0 < 0) && atBad p xs (0 - 1)) = false := by simp
  rw [e0]
  simp -implicitDefEqProofs only [List.find?_map, findIdx_range]
  have e : ((fun i => decide (0 < i) && atBad p xs (i - 1)) ∘ Nat.succ) = atBad p xs := by
    funext i
    simp
  rw [e]
inductive It | n (k : Nat) | s (t : List Nat)
def It.v : It → PV
  | .n k => .int (k : Int)
  | .s t => .str t
def It.t : It → List Nat
  | .n k => numD k
  | .s t => t
/-- it can be shown -/
def It.ok : It → Prop
  | .n k => k < 10 ^ 19
  | .s t => t.length ≤ 100
theorem It.len {i : It} (h : i.ok) : i.t.length ≤ 100 := by
  cases i with
  | n k => exact Nat.le_trans (len_num 19 k (by decide) h) (by decide)
  | s t => exact h
theorem It.str {i : It} (h : i.ok) : bltP .str [i.v] = .ok .sh (.str i.t) := by
  cases i with
  | n k =>
    show bltP .str [.int (k : Int)] = .ok .sh (.str (numD k))
    have e : (decide ((0 : Int) ≤ (k : Int)) && small (k : Int)) = true := by
      have : k < 10 ^ 19 := h
      unfold small
      simp -implicitDefEqProofs only [Bool.and_eq_true, decide_eq_true_eq]
      omega
    rw [b_str_int, if_pos e, Int.toNat_natCast]
  | s t => rfl
/-- the text of a row -/
def rowT (r : List It) : List Nat := joinS [32] (r.map It.t)
/-- a row as a tuple -/
def rowV (r : List It) : PV := .tup (r.map It.v)
def rowsT (rows : List (List It)) : List Nat := joinS [10] (rows.map rowT)
def rowsOk (rows : List (List It)) : Prop := rows.length ≤ 50 ∧ ∀ r ∈ rows, r.length ≤ 10 ∧ ∀ i ∈ r, i.ok
theorem lw_it (r : List It) (h1 : r.length ≤ 10) (h2 : ∀ i ∈ r, i.ok) : lw (r.map It.t) ≤ 1010 := by
  have h := lw_all (r.map It.t) 100 (fun y hy => by
    obtain ⟨i, hi, rfl⟩ := List.mem_map.mp hy
    exact It.len (h2 i hi))
  rw [List.length_map] at h
  omega
theorem lw_its (rows : List (List It)) (hg : rowsOk rows) : lw (rows.map rowT) ≤ 51000 := by
  have h := lw_all (rows.map rowT) 1010 (fun y hy => by
    obtain ⟨r, hr, rfl⟩ := List.mem_map.mp hy
    exact Nat.le_trans (joinS_len _ _) (lw_it r (hg.2 r hr).1 (hg.2 r hr).2))
  rw [List.length_map] at h
  have := hg.1
  omega
theorem rowsT_len (rows : List (List It)) (hg : rowsOk rows) : (rowsT rows).length ≤ 51000 := Nat.le_trans (joinS_len _ _) (lw_its rows hg)
theorem It.facts (i : It) : plain i.v = true ∧ dep i.v = 0 ∧ eqv i.v i.v = true := by
  cases i <;> simp [It.v, plain, dep, eqv]
theorem rowV_facts (r : List It) : plain (rowV r) = true ∧ dep (rowV r) ≤ 1 ∧ eqv (rowV r) (rowV r) = true := by
  have h : plains (r.map It.v) = true ∧ deps (r.map It.v) = 0 ∧ eqvs (r.map It.v) (r.map It.v) = true := by
    induction r with
    | nil => exact ⟨rfl, rfl, rfl⟩
    | cons x r ih =>
      obtain ⟨a, b, c⟩ := ih
      obtain ⟨a', b', c'⟩ := x.facts
      simp [plains, deps, eqvs, a, b, c, a', b', c']
  obtain ⟨a, b, c⟩ := h
  simp [rowV, plain, dep, eqv, a, b, c]
theorem rowsV_ne (rows : List (List It)) : cmpP .ne (.lst (rows.map rowV)) (.lst (rows.map rowV)) = some false := by
  have h : plains (rows.map rowV) = true ∧ deps (rows.map rowV) ≤ 1 ∧ eqvs (rows.map rowV) (rows.map rowV) = true := by
    induction rows with
    | nil => simp [plains, deps, eqvs]
    | cons x r ih =>
      obtain ⟨a, b, c⟩ := ih
      obtain ⟨a', b', c'⟩ := rowV_facts x
      simp [plains, deps, eqvs, a, c, a', c']
      omega
  obtain ⟨a, b, c⟩ := h
  have hd : deps (rows.map rowV) + 1 ≤ 32 := by omega
  simp [cmpP, plain, dep, eqv, a, c, hd]
/-! ### dicts with values -/
theorem repVs_len (k v : PV) : ∀ (ks vs : List PV), ks.length = vs.length → (repVs k v ks vs).length = vs.length
  | [], [], _ => rfl
  | x :: xs, y :: ys, h => by
    simp -implicitDefEqProofs only [List.length_cons, Nat.add_right_cancel_iff] at h
    simp [repVs, repVs_len k v xs ys h]
theorem repVs_mem (k v : PV) : ∀ (ks vs : List PV) (z : PV), z ∈ repVs k v ks vs → z ∈ vs ∨ z = v
  | [], _, z, h => by simp [repVs] at h
  | _ :: _, [], z, h => by simp [repVs] at h
  | x :: xs, y :: ys, z, h => by
    simp -implicitDefEqProofs only [repVs, List.mem_cons] at h
    rcases h with h | h
    · split at h
      · exact .inr h
      · exact .inl (by rw [h]; exact List.mem_cons_self)
    · rcases repVs_mem k v xs ys z h with h | h
      · exact .inl (List.mem_cons_of_mem _ h)
      · exact .inr h
theorem getK_some (k : PV) : ∀ (ks vs : List PV), ks.length = vs.length → hasK k ks = true → ∃ v, v ∈ vs ∧ getK k ks vs = some v
  | [], [], _, h => by simp [hasK] at h
  | x :: xs, y :: ys, hl, h => by
    simp -implicitDefEqProofs only [List.length_cons, Nat.add_right_cancel_iff] at hl
    simp -implicitDefEqProofs only [getK]
    cases he : eqv x k with
    | true => exact ⟨y, List.mem_cons_self, rfl⟩
    | false =>
      have h2 : hasK k xs = true := by simpa [hasK, he] using h
      obtain ⟨v, h3, h4⟩ := getK_some k xs ys hl h2
      exact ⟨v, List.mem_cons_of_mem _ h3, by simpa using h4⟩
theorem put_wordV (w : List Nat) (kl : List (List Nat)) (vs : List PV) (v : PV) (h : kl.length < LL) (hv : vs.length = kl.length) : ∃ vs', putP (.dct false (kl.map .str) vs) (.str w) v = some (.dct false ((addIf w kl).map .str) vs') ∧ vs'.length = (addIf w kl).length ∧ ∀ z ∈ vs', z ∈ vs ∨ z = v := by
  refine ⟨putVs (.str w) v (kl.map .str) vs, ?_, ?_, ?_⟩
  · show (if keyOk false (.str w) && decide ((kl.map PV.str).length < LL) then some _ else none) = _
    rw [if_pos (by simpa [keyOk] using h)]
    congr 2
    unfold putKs addIf
    rw [hasK_str]
    by_cases hm : w ∈ kl <;> simp [hm]
  · unfold putVs addIf
    rw [hasK_str]
    by_cases hm : w ∈ kl
    · simp -implicitDefEqProofs only [hm, decide_true, if_true]
      rw [repVs_len _ _ _ _ (by simp [hv]), hv]
    · simp [hm, hv]
  · intro z hz
    unfold putVs at hz
    split at hz
    · exact repVs_mem _ _ _ _ z hz
    · rcases List.mem_append.mp hz with hz | hz
      · exact .inl hz
      · exact .inr (by simpa using hz)
theorem put_pairV (w : Nat × Nat) (kl : List (Nat × Nat)) (vs : List PV) (v : PV) (h : kl.length < LL) (hv : vs.length = kl.length) : ∃ vs', putP (.dct true (kl.map pairV) vs) (pairV w) v = some (.dct true ((addIf w kl).map pairV) vs') ∧ vs'.length = (addIf w kl).length ∧ ∀ z ∈ vs', z ∈ vs ∨ z = v := by
  refine ⟨putVs (pairV w) v (kl.map pairV) vs, ?_, ?_, ?_⟩
  · show (if keyOk true (pairV w) && decide ((kl.map pairV).length < LL) then some _ else none) = _
    rw [if_pos (by simpa [keyOk, pairV] using h)]
    congr 2
    unfold putKs addIf
    rw [hasK_pair]
    by_cases hm : w ∈ kl <;> simp [hm]
  · unfold putVs addIf
    rw [hasK_pair]
    by_cases hm : w ∈ kl
    · simp -implicitDefEqProofs only [hm, decide_true, if_true]
      rw [repVs_len _ _ _ _ (by simp [hv]), hv]
    · simp [hm, hv]
  · intro z hz
    unfold putVs at hz
    split at hz
    · exact repVs_mem _ _ _ _ z hz
    · rcases List.mem_append.mp hz with hz | hz
      · exact .inl hz
      · exact .inr (by simpa using hz)
theorem ltv_tup1 (a b : List Nat) : ltv (.tup [.str a]) (.tup [.str b]) = ltv (.str a) (.str b) := by
  by_cases h : a = b
  · subst h
    have h2 : ¬ (ltS a a = true) := by rw [ltS_iff]; exact List.lt_irrefl a
    simp [ltv, ltvs, eqv, h2]
  · simp [ltv, ltvs, eqv, h]
theorem sorted_words (kl ws : List (List Nat)) (h : kl.length ≤ 1000) (q : sortP (kl.map .str) = ws.map .str) : bltP .sorted [.lst (kl.map .str)] = .ok .fr (.lst (ws.map .str)) := by
  show (if alkAll (kl.map PV.str) && decide ((kl.map PV.str).length ≤ LL) then Rs.ok .fr (.lst (sortP (kl.map PV.str))) else .bad) = _
  rw [if_pos, q]
  rw [alk_words, Bool.true_and, decide_eq_true_eq, List.length_map]
  have : (LL : Nat) = 16777216 := rfl
  omega
theorem sorted_pairs (kl ws : List (Nat × Nat)) (h : kl.length ≤ 1000) (q : sortP (kl.map pairV) = ws.map pairV) : bltP .sorted [.lst (kl.map pairV)] = .ok .fr (.lst (ws.map pairV)) := by
  show (if alkAll (kl.map pairV) && decide ((kl.map pairV).length ≤ LL) then Rs.ok .fr (.lst (sortP (kl.map pairV))) else .bad) = _
  rw [if_pos, q]
  rw [alk_pairs, Bool.true_and, decide_eq_true_eq, List.length_map]
  have : (LL : Nat) = 16777216 := rfl
  omega
/-- the last k of the drawn ones -/
theorem lastK (a c : Int) (n k : Nat) (h : k ≤ n) (hk : 0 < k) : ∃ D : List Int, cut ((lawN a c n).map PV.int) (some (-(k : Int))) none = D.map .int ∧ D.length = k ∧ ∀ x ∈ D, 0 ≤ x ∧ x < 1009 := by
  refine ⟨(lawN a c n).drop ((lawN a c n).length - k), ?_, ?_, ?_⟩
  · rw [cutLast _ k (by rw [List.length_map, lawN_len]; exact h) hk, List.length_map, List.map_drop]
  · simp [lawN_len]; omega
  · exact fun x hx => lawN_mem (List.mem_of_mem_drop hx)
end EV
set_option Elab.async false
set_option linter.all false
set_option maxRecDepth 100000
set_option maxHeartbeats 2000000
namespace Wk81
open PySem PySem.Spec PyProof.Rows L2 EV
def top (i : Nat) : Stmt := PySem.Challenge.pw_slipscaught_k81_notes_of_weights.main.body.getD i (.Pass ⟨0, 0, 0, 0⟩)
/-- has_figures -/
def b0 : Ss := (.cons (.ret (.and (.chn .le .le (.cst (.int 1)) (.blt .len (.cons (.loc 0) .nil)) (.cst (.int 18))) (.blt .all (.cons (.lc (.v 1) .seq (.cons (.loc 0) .nil) .nil (.cmp .isin (.loc 1) (.cst (.str [48, 49, 50, 51, 52, 53, 54, 55, 56, 57])))) .nil))))
 .nil)
/-- read_number -/
def b1 : Ss := (.cons (.ifs (.nt (.call 0 (.cons (.loc 0) .nil))) (.cons (.ret (.cst .non))
 .nil) .nil)
 (.cons (.ifs (.and (.mth .startswith (.loc 0) (.cons (.cst (.str [48])) .nil)) (.cmp .ne (.loc 0) (.cst (.str [48])))) (.cons (.ret (.cst .non))
 .nil) .nil)
 (.cons (.ret (.blt .int (.cons (.loc 0) .nil)))
 .nil)))
/-- all_or_none -/
def b2 : Ss := (.cons (.ret (.ite (.cmp .isin (.cst .non) (.loc 0)) (.cst .non) (.loc 0)))
 .nil)
/-- numbers_of -/
def b3 : Ss := (.cons (.ret (.call 2 (.cons (.lc (.v 1) .seq (.cons (.loc 0) .nil) .nil (.call 1 (.cons (.loc 1) .nil))) .nil)))
 .nil)
/-- lines_of -/
def b4 : Ss := (.cons (.ret (.mth .split (.loc 0) (.cons (.cst (.str [10])) .nil)))
 .nil)
/-- items_of -/
def b5 : Ss := (.cons (.ret (.mth .split (.loc 0) (.cons (.cst (.str [32])) .nil)))
 .nil)
/-- spaced -/
def b6 : Ss := (.cons (.ret (.mth .join (.cst (.str [32])) (.cons (.lc (.v 1) .seq (.cons (.loc 0) .nil) .nil (.blt .str (.cons (.loc 1) .nil))) .nil)))
 .nil)
/-- told_or_refused -/
def b7 : Ss := (.cons (.ifs (.cmp .is (.loc 0) (.cst .non)) (.cons (.rai 3 (.cons (.loc 1) .nil))
 .nil) .nil)
 (.cons (.rtl 0)
 .nil))
/-- read_from -/
def b8 : Ss := (.cons (.ret (.lcx (.t [3, 4]) .enum (.cons (.loc 0) .nil) .nil (.call 7 (.cons (.calv 2 (.cons (.loc 4) .nil)) (.cons (.bin .add (.loc 1) (.loc 3)) .nil)))))
 .nil)
/-- read_lines -/
def b9 : Ss := (.cons (.ret (.call 8 (.cons (.call 4 (.cons (.loc 0) .nil)) (.cons (.cst (.int 0)) (.cons (.loc 1) .nil)))))
 .nil)
/-- read_only_line -/
def b10 : Ss := (.cons (.set 2 (.call 9 (.cons (.loc 0) (.cons (.loc 1) .nil))))
 (.cons (.ifs (.cmp .gt (.blt .len (.cons (.loc 2) .nil)) (.cst (.int 1))) (.cons (.rai 3 (.cons (.cst (.int 1)) .nil))
 .nil) .nil)
 (.cons (.ret (.sub (.loc 2) (.cst (.int 0))))
 .nil)))
/-- refuse_if -/
def b11 : Ss := (.cons (.ifs (.loc 0) (.cons (.rai 3 (.cons (.loc 1) .nil))
 .nil) .nil)
 .nil)
/-- show_weights -/
def b12 : Ss := (.cons (.unp [1, 2] (.loc 0))
 (.cons (.frz [1] (.ret (.call 6 (.cons (.bin .add (.lst (.cons (.loc 1) (.cons (.cst (.str [58])) .nil))) (.loc 2)) .nil))))
 .nil))
/-- read_weights_line -/
def b13 : Ss := (.cons (.mat (.call 5 (.cons (.loc 0) .nil)) (.cons (.seq [(none, some 1), (some [58], none), (none, some 2)] (some 3)) (.cons (.par 4 5 (.call 1 (.cons (.loc 1) .nil)) (.call 3 (.cons (.bin .add (.lst (.cons (.loc 2) .nil)) (.loc 3)) .nil)))
 (.cons (.frz [4, 5] (.ret (.ite (.or (.cmp .is (.loc 4) (.cst .non)) (.cmp .is (.loc 5) (.cst .non))) (.cst .non) (.tup (.cons (.loc 4) (.cons (.loc 5) .nil))))))
 .nil)) (.cons .any (.cons (.ret (.cst .non))
 .nil) .nil)))
 .nil)
/-- are_weights -/
def b14 : Ss := (.cons (.ifs (.or (.nt (.chn .le .le (.cst (.int 2)) (.loc 0) (.cst (.int 40)))) (.cmp .gt (.blt .len (.cons (.loc 1) .nil)) (.cst (.int 12)))) (.cons (.ret (.cst (.bl false)))
 .nil) .nil)
 (.cons (.ret (.and (.blt .all (.cons (.lc (.v 2) .seq (.cons (.loc 1) .nil) .nil (.cmp .lt (.loc 2) (.loc 0))) .nil)) (.cmp .le (.bin .mul (.loc 0) (.blt .len (.cons (.loc 1) .nil))) (.cst (.int 120)))))
 .nil))
/-- read_weights -/
def b15 : Ss := (.cons (.unp [1, 2] (.call 10 (.cons (.loc 0) (.cons (.cst (.fn 13)) .nil))))
 (.cons (.frz [1, 2] (.exp (.call 11 (.cons (.nt (.call 14 (.cons (.loc 1) (.cons (.loc 2) .nil)))) (.cons (.cst (.int 0)) .nil)))))
 (.cons (.frz [1, 2] (.ret (.tup (.cons (.loc 1) (.cons (.loc 2) .nil)))))
 .nil)))
/-- _law_numbers -/
def b16 : Ss := (.cons (.set 3 (.bin .mul (.cst (.int 1000003)) (.bin .add (.loc 1) (.cst (.int 1)))))
 (.cons (.ifs (.cmp .lt (.loc 1) (.blt .len (.cons (.loc 0) .nil))) (.cons (.set 3 (.blt .int (.cons (.sub (.loc 0) (.loc 1)) .nil)))
 .nil) .nil)
 (.cons (.ifs (.cmp .lt (.loc 3) (.cst (.int 0))) (.cons (.set 3 (.bin .sub (.cst (.int 1)) (.bin .mul (.cst (.int 2)) (.loc 3))))
 .nil) .nil)
 (.cons (.set 4 (.lst .nil))
 (.cons (.for (.v 5) .rng (.cons (.loc 2) .nil)
 (.cons (.ifs (.cmp .ge (.loc 3) (.bin .pow (.cst (.int 10)) (.cst (.int 18)))) (.cons (.app 4 (.bin .mod (.loc 3) (.cst (.int 1009))))
 (.cons (.set 3 (.bin .fdiv (.loc 3) (.cst (.int 1009))))
 .nil)) (.cons (.set 6 (.bin .mod (.bin .add (.bin .add (.bin .mul (.loc 3) (.cst (.int 48271))) (.bin .mul (.bin .add (.loc 5) (.cst (.int 1))) (.cst (.int 69621)))) (.bin .mul (.loc 1) (.cst (.int 4001)))) (.cst (.int 2147483647))))
 (.cons (.set 6 (.bin .mod (.bin .add (.bin .mul (.loc 6) (.loc 6)) (.bin .mul (.cst (.int 16807)) (.bin .add (.loc 5) (.cst (.int 3))))) (.cst (.int 2147483629))))
 (.cons (.app 4 (.bin .mod (.bin .fdiv (.loc 6) (.cst (.int 7))) (.cst (.int 1009))))
 .nil))))
 .nil) [5, 6])
 (.cons (.rtl 4)
 .nil))))))
/-- _law_is_integer -/
def b17 : Ss := (.cons (.ret (.and (.blt .isinst (.cons (.loc 0) (.cons (.cst (.ty 0)) .nil))) (.nt (.blt .isinst (.cons (.loc 0) (.cons (.cst (.ty 4)) .nil))))))
 .nil)
/-- _law_same -/
def b18 : Ss := (.cons (.ifs (.blt .isinst (.cons (.loc 1) (.cons (.tup (.cons (.cst (.ty 2)) (.cons (.cst (.ty 3)) .nil))) .nil))) (.cons (.ifs (.or (.cmp .ne (.blt .isinst (.cons (.loc 0) (.cons (.cst (.ty 2)) .nil))) (.blt .isinst (.cons (.loc 1) (.cons (.cst (.ty 2)) .nil)))) (.cmp .ne (.blt .isinst (.cons (.loc 0) (.cons (.cst (.ty 3)) .nil))) (.blt .isinst (.cons (.loc 1) (.cons (.cst (.ty 3)) .nil))))) (.cons (.ret (.cst (.bl false)))
 .nil) .nil)
 (.cons (.ifs (.cmp .ne (.blt .len (.cons (.loc 0) .nil)) (.blt .len (.cons (.loc 1) .nil))) (.cons (.ret (.cst (.bl false)))
 .nil) .nil)
 (.cons (.for (.v 2) .rng (.cons (.blt .len (.cons (.loc 1) .nil)) .nil)
 (.cons (.ifs (.nt (.call 18 (.cons (.sub (.loc 0) (.loc 2)) (.cons (.sub (.loc 1) (.loc 2)) .nil)))) (.cons (.ret (.cst (.bl false)))
 .nil) .nil)
 .nil) [2])
 (.cons (.ret (.cst (.bl true)))
 .nil)))) .nil)
 (.cons (.ifs (.cmp .is (.loc 1) (.cst .non)) (.cons (.ret (.cmp .is (.loc 0) (.cst .non)))
 .nil) .nil)
 (.cons (.ifs (.blt .isinst (.cons (.loc 1) (.cons (.cst (.ty 1)) .nil))) (.cons (.ret (.and (.blt .isinst (.cons (.loc 0) (.cons (.cst (.ty 1)) .nil))) (.cmp .eq (.loc 0) (.loc 1))))
 .nil) .nil)
 (.cons (.ret (.and (.call 17 (.cons (.loc 0) .nil)) (.cmp .eq (.loc 0) (.loc 1))))
 .nil))))
/-- _law_numbers_of -/
def b19 : Ss := (.cons (.set 1 (.lst .nil))
 (.cons (.for (.v 2) .seq (.cons (.loc 0) .nil)
 (.cons (.ifs (.or (.cmp .eq (.loc 2) (.cst (.str []))) (.or (.cmp .gt (.blt .len (.cons (.loc 2) .nil)) (.cst (.int 18))) (.or (.lc (.v 3) .seq (.cons (.loc 2) .nil) (.cons (.cmp .notin (.loc 3) (.cst (.str [48, 49, 50, 51, 52, 53, 54, 55, 56, 57]))) .nil) (.loc 3)) (.and (.cmp .eq (.sub (.loc 2) (.cst (.int 0))) (.cst (.str [48]))) (.cmp .ne (.loc 2) (.cst (.str [48]))))))) (.cons (.ret (.cst .non))
 .nil) .nil)
 (.cons (.app 1 (.blt .int (.cons (.loc 2) .nil)))
 .nil)) [2])
 (.cons (.rtl 1)
 .nil)))
/-- _law_line -/
def b20 : Ss := (.cons (.set 1 (.mth .split (.loc 0) (.cons (.cst (.str [32])) .nil)))
 (.cons (.ifs (.or (.cmp .lt (.blt .len (.cons (.loc 1) .nil)) (.cst (.int 3))) (.cmp .ne (.sub (.loc 1) (.cst (.int 1))) (.cst (.str [58])))) (.cons (.ret (.cst .non))
 .nil) .nil)
 (.cons (.set 2 (.call 19 (.cons (.bin .add (.slc (.loc 1) .nil (.cons (.cst (.int 1)) .nil)) (.slc (.loc 1) (.cons (.cst (.int 2)) .nil) .nil)) .nil)))
 (.cons (.ifs (.cmp .is (.loc 2) (.cst .non)) (.cons (.ret (.cst .non))
 .nil) .nil)
 (.cons (.ret (.tup (.cons (.sub (.loc 2) (.cst (.int 0))) (.cons (.slc (.loc 2) (.cons (.cst (.int 1)) .nil) .nil) .nil))))
 .nil)))))
/-- _law_due -/
def b21 : Ss := (.cons (.set 2 (.mth .split (.loc 1) (.cons (.cst (.str [10])) .nil)))
 (.cons (.for (.v 3) .rng (.cons (.blt .len (.cons (.loc 2) .nil)) .nil)
 (.cons (.ifs (.cmp .is (.call 20 (.cons (.sub (.loc 2) (.loc 3)) .nil)) (.cst .non)) (.cons (.frz [3] (.ret (.tup (.cons (.cst (.bl false)) (.cons (.loc 3) .nil)))))
 .nil) .nil)
 .nil) [3])
 (.cons (.ifs (.cmp .gt (.blt .len (.cons (.loc 2) .nil)) (.cst (.int 1))) (.cons (.ret (.tup (.cons (.cst (.bl false)) (.cons (.cst (.int 1)) .nil))))
 .nil) .nil)
 (.cons (.unp [4, 5] (.call 20 (.cons (.loc 1) .nil)))
 (.cons (.ifs (.or (.nt (.chn .le .le (.cst (.int 2)) (.loc 4) (.cst (.int 40)))) (.or (.cmp .gt (.blt .len (.cons (.loc 5) .nil)) (.cst (.int 12))) (.or (.cmp .ne (.lc (.v 6) .seq (.cons (.loc 5) .nil) (.cons (.cmp .ge (.loc 6) (.loc 4)) .nil) (.loc 6)) (.lst .nil)) (.cmp .gt (.bin .mul (.loc 4) (.blt .len (.cons (.loc 5) .nil))) (.cst (.int 120)))))) (.cons (.ret (.tup (.cons (.cst (.bl false)) (.cons (.cst (.int 0)) .nil))))
 .nil) .nil)
 (.cons (.frz [4, 5] (.ret (.tup (.cons (.cst (.bl true)) (.cons (.tup (.cons (.loc 4) (.cons (.loc 5) .nil))) .nil)))))
 .nil))))))
/-- _law_told -/
def b22 : Ss := (.cons (.try (.cons (.ret (.tup (.cons (.cst (.bl true)) (.cons (.call 15 (.cons (.loc 1) .nil)) .nil))))
 .nil) 3 (some 2) (.cons (.ifs (.or (.nt (.xis 2 [0])) (.xis 2 [2, 1])) (.cons (.ret (.tup (.cons (.cst (.bl false)) (.cons (.cst .non) .nil))))
 .nil) .nil)
 (.cons (.ret (.tup (.cons (.cst (.bl false)) (.cons (.xfl 2 3) .nil))))
 .nil)))
 .nil)
/-- _law_read_right -/
def b23 : Ss := (.cons (.set 2 (.call 21 (.cons (.loc 0) (.cons (.loc 1) .nil))))
 (.cons (.set 3 (.call 22 (.cons (.loc 0) (.cons (.loc 1) .nil))))
 (.cons (.ret (.and (.cmp .eq (.sub (.loc 3) (.cst (.int 0))) (.sub (.loc 2) (.cst (.int 0)))) (.call 18 (.cons (.sub (.loc 3) (.cst (.int 1))) (.cons (.sub (.loc 2) (.cst (.int 1))) .nil)))))
 .nil)))
/-- _law_changed -/
def b24 : Ss := (.cons (.set 2 (.bin .mod (.blt .int (.cons (.bin .add (.bin .mul (.sub (.loc 1) (.cst (.int 0))) (.cst (.int 1009))) (.sub (.loc 1) (.cst (.int 1)))) .nil)) (.bin .add (.blt .len (.cons (.loc 0) .nil)) (.cst (.int 1)))))
 (.cons (.set 3 (.sub (.cst (.str [48, 49, 50, 51, 52, 53, 54, 55, 56, 57, 32, 45, 97, 58, 32, 48, 58, 10])) (.bin .mod (.blt .int (.cons (.sub (.loc 1) (.cst (.int 2))) .nil)) (.cst (.int 18)))))
 (.cons (.set 4 (.mth .split (.loc 0) (.cons (.cst (.str [10])) .nil)))
 (.cons (.set 5 (.bin .mod (.blt .int (.cons (.sub (.loc 1) (.cst (.int 3))) .nil)) (.blt .len (.cons (.loc 4) .nil))))
 (.cons (.set 6 (.bin .mod (.blt .int (.cons (.sub (.loc 1) (.cst (.int 4))) .nil)) (.blt .len (.cons (.loc 4) .nil))))
 (.cons (.set 7 (.bin .mod (.blt .int (.cons (.sub (.loc 1) (.cst (.int 5))) .nil)) (.cst (.int 15))))
 (.cons (.ifs (.cmp .lt (.loc 7) (.cst (.int 2))) (.cons (.ret (.bin .add (.slc (.loc 0) .nil (.cons (.loc 2) .nil)) (.slc (.loc 0) (.cons (.bin .add (.loc 2) (.cst (.int 1))) .nil) .nil)))
 .nil) .nil)
 (.cons (.ifs (.cmp .lt (.loc 7) (.cst (.int 4))) (.cons (.ret (.bin .add (.bin .add (.slc (.loc 0) .nil (.cons (.loc 2) .nil)) (.loc 3)) (.slc (.loc 0) (.cons (.loc 2) .nil) .nil)))
 .nil) .nil)
 (.cons (.ifs (.cmp .lt (.loc 7) (.cst (.int 6))) (.cons (.ret (.bin .add (.bin .add (.slc (.loc 0) .nil (.cons (.loc 2) .nil)) (.loc 3)) (.slc (.loc 0) (.cons (.bin .add (.loc 2) (.cst (.int 1))) .nil) .nil)))
 .nil) .nil)
 (.cons (.ifs (.cmp .eq (.loc 7) (.cst (.int 6))) (.cons (.ret (.mth .join (.cst (.str [10])) (.cons (.bin .add (.bin .add (.slc (.loc 4) .nil (.cons (.loc 5) .nil)) (.lst (.cons (.sub (.loc 4) (.loc 6)) .nil))) (.slc (.loc 4) (.cons (.loc 5) .nil) .nil)) .nil)))
 .nil) .nil)
 (.cons (.ifs (.cmp .eq (.loc 7) (.cst (.int 7))) (.cons (.ret (.mth .join (.cst (.str [10])) (.cons (.bin .add (.slc (.loc 4) .nil (.cons (.loc 5) .nil)) (.slc (.loc 4) (.cons (.bin .add (.loc 5) (.cst (.int 1))) .nil) .nil)) .nil)))
 .nil) .nil)
 (.cons (.ifs (.cmp .eq (.loc 7) (.cst (.int 8))) (.cons (.ret (.sub (.lst (.cons (.bin .add (.loc 0) (.cst (.str [10]))) (.cons (.bin .add (.cst (.str [10])) (.loc 0)) (.cons (.bin .add (.loc 0) (.cst (.str [32]))) (.cons (.bin .add (.cst (.str [32])) (.loc 0)) (.cons (.mth .replace1 (.loc 0) (.cons (.cst (.str [32])) (.cons (.cst (.str [32, 32])) (.cons (.cst (.int 1)) .nil)))) .nil)))))) (.bin .mod (.blt .int (.cons (.sub (.loc 1) (.cst (.int 4))) .nil)) (.cst (.int 5)))))
 .nil) .nil)
 (.cons (.ifs (.cmp .lt (.loc 7) (.cst (.int 11))) (.cons (.swp 4 (.loc 5) (.loc 6) (.sub (.loc 4) (.loc 6)) (.sub (.loc 4) (.loc 5)))
 (.cons (.ret (.mth .join (.cst (.str [10])) (.cons (.loc 4) .nil)))
 .nil)) .nil)
 (.cons (.set 8 (.mth .split (.sub (.loc 4) (.loc 5)) (.cons (.cst (.str [32])) .nil)))
 (.cons (.set 9 (.lst (.cons (.cst (.str [48])) (.cons (.cst (.str [49])) (.cons (.cst (.str [50])) (.cons (.cst (.str [52, 48])) (.cons (.cst (.str [52, 49])) (.cons (.cst (.str [48, 49])) (.cons (.cst (.str [45, 49])) (.cons (.cst (.str [])) (.cons (.cst (.str [97])) (.cons (.cst (.str [58])) (.cons (.bin .mul (.cst (.str [49])) (.cst (.int 18))) (.cons (.bin .mul (.cst (.str [49])) (.cst (.int 19))) (.cons (.sub (.loc 8) (.cst (.int 0))) (.cons (.sub (.loc 8) (.neg (.cst (.int 1)))) (.cons (.cst (.str [48, 32, 48])) (.cons (.cst (.str [58, 32, 49])) (.cons (.cst (.str [49, 48, 32, 49, 48, 32, 49, 48])) .nil)))))))))))))))))))
 (.cons (.put 8 (.bin .mod (.blt .int (.cons (.bin .add (.sub (.loc 1) (.cst (.int 3))) (.sub (.loc 1) (.cst (.int 0)))) .nil)) (.blt .len (.cons (.loc 8) .nil))) (.sub (.loc 9) (.bin .mod (.blt .int (.cons (.sub (.loc 1) (.cst (.int 4))) .nil)) (.blt .len (.cons (.loc 9) .nil)))))
 (.cons (.put 4 (.loc 5) (.mth .join (.cst (.str [32])) (.cons (.loc 8) .nil)))
 (.cons (.ret (.mth .join (.cst (.str [10])) (.cons (.loc 4) .nil)))
 .nil))))))))))))))))))
/-- _law_text -/
def b25 : Ss := (.cons (.ret (.mth .join (.cst (.str [32])) (.cons (.bin .add (.lst (.cons (.blt .str (.cons (.sub (.loc 0) (.cst (.int 0))) .nil)) (.cons (.cst (.str [58])) .nil))) (.lc (.v 1) .seq (.cons (.sub (.loc 0) (.cst (.int 1))) .nil) .nil (.blt .str (.cons (.loc 1) .nil)))) .nil)))
 .nil)
/-- law -/
def b26 : Ss := (.cons (.set 1 (.call 16 (.cons (.loc 0) (.cons (.cst (.int 0)) (.cons (.cst (.int 16)) .nil)))))
 (.cons (.set 2 (.sub (.lst (.cons (.cst (.int 2)) (.cons (.cst (.int 40)) (.cons (.bin .add (.cst (.int 2)) (.bin .mod (.sub (.loc 1) (.cst (.int 0))) (.cst (.int 39)))) (.cons (.cst (.int 10)) (.cons (.cst (.int 11)) .nil)))))) (.bin .mod (.sub (.loc 1) (.cst (.int 1))) (.cst (.int 5)))))
 (.cons (.set 3 (.blt .min (.cons (.cst (.int 12)) (.cons (.bin .fdiv (.cst (.int 120)) (.loc 2)) .nil))))
 (.cons (.set 4 (.lc (.v 5) .rng (.cons (.bin .add (.cst (.int 1)) (.bin .mod (.sub (.loc 1) (.cst (.int 15))) (.loc 3))) .nil) .nil (.sub (.lst (.cons (.bin .mod (.sub (.loc 1) (.bin .add (.cst (.int 3)) (.loc 5))) (.loc 2)) (.cons (.bin .sub (.loc 2) (.cst (.int 1))) (.cons (.cst (.int 0)) .nil)))) (.bin .mod (.bin .fdiv (.sub (.loc 1) (.cst (.int 2))) (.bin .add (.loc 5) (.cst (.int 1)))) (.cst (.int 3))))))
 (.cons (.frz [2, 4] (.set 6 (.call 25 (.cons (.tup (.cons (.loc 2) (.cons (.loc 4) .nil))) .nil))))
 (.cons (.frz [2] (.set 7 (.tup (.cons (.loc 2) (.cons (.blt .list (.cons (.loc 4) .nil)) .nil)))))
 (.cons (.frz [7] (.set 8 (.call 12 (.cons (.loc 7) .nil))))
 (.cons (.frz [6] (.set 9 (.call 22 (.cons (.cst (.int 0)) (.cons (.loc 6) .nil)))))
 (.cons (.frz [2, 4] (.ifs (.or (.nt (.blt .isinst (.cons (.loc 8) (.cons (.cst (.ty 1)) .nil)))) (.or (.cmp .ne (.loc 8) (.loc 6)) (.or (.cmp .ne (.loc 7) (.tup (.cons (.loc 2) (.cons (.loc 4) .nil)))) (.or (.cmp .isnot (.sub (.loc 9) (.cst (.int 0))) (.cst (.bl true))) (.nt (.call 18 (.cons (.sub (.loc 9) (.cst (.int 1))) (.cons (.tup (.cons (.loc 2) (.cons (.loc 4) .nil))) .nil)))))))) (.cons (.ret (.cst (.bl false)))
 .nil) .nil))
 (.cons (.set 10 (.lst (.cons (.cst (.str [])) (.cons (.cst (.str [10])) (.cons (.cst (.str [50, 32, 58, 32, 48])) (.cons (.cst (.str [50, 32, 58, 32, 50])) (.cons (.cst (.str [49, 32, 58, 32, 48])) (.cons (.cst (.str [48, 32, 58, 32, 48])) (.cons (.cst (.str [52, 49, 32, 58, 32, 49])) (.cons (.cst (.str [52, 48, 32, 58, 32, 51, 57, 32, 51, 57, 32, 51, 57])) (.cons (.cst (.str [52, 48, 32, 58, 32, 51, 57, 32, 51, 57, 32, 51, 57, 32, 51, 57])) (.cons (.cst (.str [49, 48, 32, 58, 32, 49, 32, 50, 32, 51, 32, 52, 32, 53, 32, 54, 32, 55, 32, 56, 32, 57, 32, 48, 32, 49, 32, 50])) (.cons (.cst (.str [57, 32, 58, 32, 49, 32, 50, 32, 51, 32, 52, 32, 53, 32, 54, 32, 55, 32, 56, 32, 48, 32, 49, 32, 50, 32, 51, 32, 52])) (.cons (.cst (.str [50, 32, 58])) (.cons (.cst (.str [50, 32, 49])) .nil)))))))))))))))
 (.cons (.set 10 (.bin .add (.loc 10) (.lst (.cons (.cst (.str [50, 58, 32, 49])) (.cons (.cst (.str [50, 32, 58, 49])) (.cons (.cst (.str [58, 32, 49])) (.cons (.cst (.str [50, 32, 58, 32, 49, 32])) (.cons (.cst (.str [32, 50, 32, 58, 32, 49])) (.cons (.cst (.str [50, 32, 58, 32, 48, 49])) (.cons (.cst (.str [48, 50, 32, 58, 32, 49])) (.cons (.cst (.str [50, 32, 58, 32, 45, 49])) (.cons (.cst (.str [50, 32, 58, 32, 58, 32, 49])) (.cons (.cst (.str [50, 32, 58, 32, 49, 10, 50, 32, 58, 32, 49])) (.cons (.cst (.str [53, 48, 32, 58, 32, 49, 10, 50, 32, 58, 32, 49])) (.cons (.cst (.str [50, 32, 58, 32, 49, 10, 50])) (.cons (.cst (.str [50, 32, 58, 32, 97])) (.cons (.bin .add (.loc 6) (.cst (.str [10]))) (.cons (.bin .add (.bin .add (.loc 6) (.cst (.str [10]))) (.loc 6)) .nil))))))))))))))))))
 (.cons (.frz [2] (.for (.v 11) .seq (.cons (.bin .add (.loc 10) (.lst (.cons (.call 25 (.cons (.tup (.cons (.loc 2) (.cons (.bin .add (.loc 4) (.lst (.cons (.loc 2) .nil))) .nil))) .nil)) (.cons (.call 25 (.cons (.tup (.cons (.loc 2) (.cons (.bin .mul (.loc 4) (.cst (.int 13))) .nil))) .nil)) (.cons (.call 25 (.cons (.tup (.cons (.bin .sub (.bin .pow (.cst (.int 10)) (.cst (.int 18))) (.cst (.int 1))) (.cons (.lst (.cons (.bin .sub (.bin .pow (.cst (.int 10)) (.cst (.int 18))) (.cst (.int 2))) .nil)) .nil))) .nil)) (.cons (.call 25 (.cons (.tup (.cons (.loc 2) (.cons (.bin .add (.loc 4) (.lst (.cons (.bin .pow (.cst (.int 10)) (.cst (.int 18))) .nil))) .nil))) .nil)) .nil)))))) .nil)
 (.cons (.frz [11] (.ifs (.nt (.call 23 (.cons (.cst (.int 0)) (.cons (.loc 11) .nil)))) (.cons (.ret (.cst (.bl false)))
 .nil) .nil))
 .nil) [11]))
 (.cons (.for (.v 12) .rng (.cons (.cst (.int 20)) .nil)
 (.cons (.set 13 (.call 16 (.cons (.loc 0) (.cons (.bin .add (.cst (.int 2)) (.loc 12)) (.cons (.cst (.int 14)) .nil)))))
 (.cons (.frz [6, 13] (.set 14 (.call 24 (.cons (.loc 6) (.cons (.loc 13) .nil)))))
 (.cons (.frz [14] (.ifs (.or (.nt (.call 23 (.cons (.cst (.int 0)) (.cons (.loc 14) .nil)))) (.nt (.call 23 (.cons (.cst (.int 0)) (.cons (.call 24 (.cons (.loc 14) (.cons (.slc (.loc 13) (.cons (.cst (.int 7)) .nil) .nil) .nil))) .nil))))) (.cons (.ret (.cst (.bl false)))
 .nil) .nil))
 .nil))) [12, 13, 14])
 (.cons (.ret (.cst (.bl true)))
 .nil))))))))))))))
def par : Nat → Option Nat := fun c => [none, some 0, some 0, some 0].getD c none
def P : Pg := ⟨[⟨2, b0⟩, ⟨1, b1⟩, ⟨1, b2⟩, ⟨2, b3⟩, ⟨1, b4⟩, ⟨1, b5⟩, ⟨2, b6⟩, ⟨2, b7⟩, ⟨5, b8⟩, ⟨2, b9⟩, ⟨3, b10⟩, ⟨2, b11⟩, ⟨3, b12⟩, ⟨6, b13⟩, ⟨3, b14⟩, ⟨3, b15⟩, ⟨7, b16⟩, ⟨1, b17⟩, ⟨3, b18⟩, ⟨4, b19⟩, ⟨3, b20⟩, ⟨7, b21⟩, ⟨3, b22⟩, ⟨4, b23⟩, ⟨10, b24⟩, ⟨2, b25⟩, ⟨15, b26⟩], [1, 1, 1, 1, 1, 1, 1, 2, 3, 2, 2, 2, 1, 1, 2, 1, 3, 1, 2, 1, 1, 2, 2, 2, 2, 1, 1], par, 4⟩
structure Gs (g : Gh) (mg : Str → Option Value) : Prop where
  x_len : GDok g mg "len" (.no)
  x_MOST_FIGURES : GDok g mg "MOST_FIGURES" (.int 18)
  x_FIGURES : GDok g mg "FIGURES" (.str [48, 49, 50, 51, 52, 53, 54, 55, 56, 57])
  x_all : GDok g mg "all" (.no)
  x_has_figures : GDok g mg "has_figures" (.fn 0)
  x_int : GDok g mg "int" (.no)
  x_read_number : GDok g mg "read_number" (.fn 1)
  x_all_or_none : GDok g mg "all_or_none" (.fn 2)
  x_str : GDok g mg "str" (.no)
  x_BadLine : GDok g mg "BadLine" (.cls 3)
  x_enumerate : GDok g mg "enumerate" (.no)
  x_told_or_refused : GDok g mg "told_or_refused" (.fn 7)
  x_lines_of : GDok g mg "lines_of" (.fn 4)
  x_read_from : GDok g mg "read_from" (.fn 8)
  x_read_lines : GDok g mg "read_lines" (.fn 9)
  x_COLON : GDok g mg "COLON" (.str [58])
  x_spaced : GDok g mg "spaced" (.fn 6)
  x_items_of : GDok g mg "items_of" (.fn 5)
  x_numbers_of : GDok g mg "numbers_of" (.fn 3)
  x_LEAST_MODULUS : GDok g mg "LEAST_MODULUS" (.int 2)
  x_GREATEST_MODULUS : GDok g mg "GREATEST_MODULUS" (.int 40)
  x_MOST_WEIGHTS : GDok g mg "MOST_WEIGHTS" (.int 12)
  x_MOST_STATES : GDok g mg "MOST_STATES" (.int 120)
  x_read_weights_line : GDok g mg "read_weights_line" (.fn 13)
  x_read_only_line : GDok g mg "read_only_line" (.fn 10)
  x_are_weights : GDok g mg "are_weights" (.fn 14)
  x_refuse_if : GDok g mg "refuse_if" (.fn 11)
  x_range : GDok g mg "range" (.no)
  x_isinstance : GDok g mg "isinstance" (.no)
  x_bool : GDok g mg "bool" (.no)
  x_tuple : GDok g mg "tuple" (.no)
  x_list : GDok g mg "list" (.no)
  x__law_same : GDok g mg "_law_same" (.fn 18)
  x__law_is_integer : GDok g mg "_law_is_integer" (.fn 17)
  x__law_numbers_of : GDok g mg "_law_numbers_of" (.fn 19)
  x__law_line : GDok g mg "_law_line" (.fn 20)
  x_read_weights : GDok g mg "read_weights" (.fn 15)
  x_SlipError : GDok g mg "SlipError" (.cls 0)
  x_BadScheme : GDok g mg "BadScheme" (.cls 1)
  x_BadNumbers : GDok g mg "BadNumbers" (.cls 2)
  x__law_due : GDok g mg "_law_due" (.fn 21)
  x__law_told : GDok g mg "_law_told" (.fn 22)
  x__law_numbers : GDok g mg "_law_numbers" (.fn 16)
  x_min : GDok g mg "min" (.no)
  x__law_text : GDok g mg "_law_text" (.fn 25)
  x_show_weights : GDok g mg "show_weights" (.fn 12)
  x__law_read_right : GDok g mg "_law_read_right" (.fn 23)
  x__law_changed : GDok g mg "_law_changed" (.fn 24)
section
variable {g : Gh} {mg : Str → Option Value}
/-- has_figures -/
theorem s0 (G : Gs g mg) (d : Nat) : SSs (sgOf g mg P d ["text", "sign"]) (defScope (top 3)) 2 (defBody (top 3)) b0 := by
  exact (SSs.cons (SS.ret (SE.and (SE.chn .le .le rfl SE.int (SE.blt .len rfl (by exact G.x_len) bv_len rfl (by decide) rfl (by decide) (SA.cons rfl (SE.loc 0 rfl rfl rfl) SA.nil)) (SE.gint 18 rfl (by exact G.x_MOST_FIGURES) rfl)) (SE.one (SE.blt .all rfl (by exact G.x_all) bv_all rfl (by decide) rfl (by decide) (SA.cons rfl (SE.lc [("sign", 1)] (by decide) (fun _ _ => rfl) rfl rfl (SI.seq (SE.loc 0 rfl rfl rfl)) (SG.v 1 rfl rfl) SC.nil (SE.cmp .isin rfl (SE.loc 1 rfl rfl rfl) (SE.gstr [48, 49, 50, 51, 52, 53, 54, 55, 56, 57] rfl (by exact G.x_FIGURES) (by decide) rfl))) SA.nil)))))
 SSs.nil)
/-- read_number -/
theorem s1 (G : Gs g mg) (d : Nat) : SSs (sgOf g mg P d ["text"]) (defScope (top 4)) 2 (defBody (top 4)) b1 := by
  exact (SSs.cons (SS.ifs (ST.nt (ST.v (SE.call 0 rfl (by exact G.x_has_figures) rfl rfl (by decide) (SA.cons rfl (SE.loc 0 rfl rfl rfl) SA.nil)) rfl rfl)) (SSs.cons (SS.ret SE.non)
 SSs.nil) SSs.nil)
 (SSs.cons (SS.ifs (ST.w (SW.and (ST.v (SE.mth .startswith rfl rfl rfl rfl rfl (SE.loc 0 rfl rfl rfl) (SA.cons rfl (SE.str [48] (by decide +kernel) (by decide)) SA.nil)) rfl rfl) (SW.and1 (ST.cmp .ne rfl (SE.loc 0 rfl rfl rfl) (SE.str [48] (by decide +kernel) (by decide)))))) (SSs.cons (SS.ret SE.non)
 SSs.nil) SSs.nil)
 (SSs.cons (SS.ret (SE.blt .int rfl (by exact G.x_int) bv_int rfl (by decide) rfl (by decide) (SA.cons rfl (SE.loc 0 rfl rfl rfl) SA.nil)))
 SSs.nil)))
/-- all_or_none -/
theorem s2 (G : Gs g mg) (d : Nat) : SSs (sgOf g mg P d ["values"]) (defScope (top 5)) 2 (defBody (top 5)) b2 := by
  exact (SSs.cons (SS.ret (SE.ite (ST.cmp .isin rfl SE.non (SE.loc 0 rfl rfl rfl)) SE.non (SE.loc 0 rfl rfl rfl)))
 SSs.nil)
/-- numbers_of -/
theorem s3 (G : Gs g mg) (d : Nat) : SSs (sgOf g mg P d ["items", "item"]) (defScope (top 6)) 2 (defBody (top 6)) b3 := by
  exact (SSs.cons (SS.ret (SE.call 2 rfl (by exact G.x_all_or_none) rfl rfl (by decide) (SA.cons rfl (SE.lc [("item", 1)] (by decide) (fun _ _ => rfl) rfl rfl (SI.seq (SE.loc 0 rfl rfl rfl)) (SG.v 1 rfl rfl) SC.nil (SE.call 1 rfl (by exact G.x_read_number) rfl rfl (by decide) (SA.cons rfl (SE.loc 1 rfl rfl rfl) SA.nil))) SA.nil)))
 SSs.nil)
/-- lines_of -/
theorem s4 (G : Gs g mg) (d : Nat) : SSs (sgOf g mg P d ["text"]) (defScope (top 7)) 2 (defBody (top 7)) b4 := by
  exact (SSs.cons (SS.ret (SE.mth .split rfl rfl rfl rfl rfl (SE.loc 0 rfl rfl rfl) (SA.cons rfl (SE.str [10] (by decide +kernel) (by decide)) SA.nil)))
 SSs.nil)
/-- items_of -/
theorem s5 (G : Gs g mg) (d : Nat) : SSs (sgOf g mg P d ["line"]) (defScope (top 8)) 2 (defBody (top 8)) b5 := by
  exact (SSs.cons (SS.ret (SE.mth .split rfl rfl rfl rfl rfl (SE.loc 0 rfl rfl rfl) (SA.cons rfl (SE.str [32] (by decide +kernel) (by decide)) SA.nil)))
 SSs.nil)
/-- spaced -/
theorem s6 (G : Gs g mg) (d : Nat) : SSs (sgOf g mg P d ["values", "value"]) (defScope (top 9)) 2 (defBody (top 9)) b6 := by
  exact (SSs.cons (SS.ret (SE.mth .join rfl rfl rfl rfl rfl (SE.str [32] (by decide +kernel) (by decide)) (SA.cons rfl (SE.lc [("value", 1)] (by decide) (fun _ _ => rfl) rfl rfl (SI.seq (SE.loc 0 rfl rfl rfl)) (SG.v 1 rfl rfl) SC.nil (SE.blt .str rfl (by exact G.x_str) bv_str rfl (by decide) rfl (by decide) (SA.cons rfl (SE.loc 1 rfl rfl rfl) SA.nil))) SA.nil)))
 SSs.nil)
/-- told_or_refused -/
theorem s7 (G : Gs g mg) {f3 : Addr} (T3 : PySem.OneX.LowTxt "BadLine" "line" "BadLine.__init__" g.K mg (g.ca 3) f3) (hx3 : g.xn 3 = "line") (d : Nat) : SSs (sgOf g mg P d ["value", "index"]) (defScope (top 16)) 2 (defBody (top 16)) b7 := by
  exact (SSs.cons (SS.ifs (ST.cmp .is rfl (SE.loc 0 rfl rfl rfl) SE.non) (SSs.cons (SS.rai 3 T3 hx3 (by decide) rfl rfl rfl (SE.loc 1 rfl rfl rfl))
 SSs.nil) SSs.nil)
 (SSs.cons (SS.rtl 0 rfl rfl rfl)
 SSs.nil))
/-- read_from -/
theorem s8 (G : Gs g mg) (d : Nat) : SSs (sgOf g mg P d ["lines", "first", "read_line", "index", "line"]) (defScope (top 17)) 2 (defBody (top 17)) b8 := by
  exact (SSs.cons (SS.ret (SE.lcx [("index", 3), ("line", 4)] (by decide) (fun _ _ => rfl) rfl rfl (SI.enum rfl rfl (by exact G.x_enumerate) rfl (SE.loc 0 rfl rfl rfl)) (SG.t (by decide) rfl rfl (SGs.cons 3 rfl rfl (SGs.cons 4 rfl rfl SGs.nil))) SC.nil (SE.call 7 rfl (by exact G.x_told_or_refused) rfl rfl (by decide) (SA.cons rfl (SE.calv 2 rfl rfl rfl rfl (by decide) (SA.cons rfl (SE.loc 4 rfl rfl rfl) SA.nil)) (SA.cons rfl (SE.bin .add (SE.loc 1 rfl rfl rfl) (SE.loc 3 rfl rfl rfl)) SA.nil)))))
 SSs.nil)
/-- read_lines -/
theorem s9 (G : Gs g mg) (d : Nat) : SSs (sgOf g mg P d ["text", "read_line"]) (defScope (top 18)) 2 (defBody (top 18)) b9 := by
  exact (SSs.cons (SS.ret (SE.call 8 rfl (by exact G.x_read_from) rfl rfl (by decide) (SA.cons rfl (SE.call 4 rfl (by exact G.x_lines_of) rfl rfl (by decide) (SA.cons rfl (SE.loc 0 rfl rfl rfl) SA.nil)) (SA.cons rfl SE.int (SA.cons rfl (SE.loc 1 rfl rfl rfl) SA.nil)))))
 SSs.nil)
/-- read_only_line -/
theorem s10 (G : Gs g mg) {f3 : Addr} (T3 : PySem.OneX.LowTxt "BadLine" "line" "BadLine.__init__" g.K mg (g.ca 3) f3) (hx3 : g.xn 3 = "line") (d : Nat) : SSs (sgOf g mg P d ["text", "read_line", "told"]) (defScope (top 19)) 2 (defBody (top 19)) b10 := by
  exact (SSs.cons (SS.set 2 rfl rfl (fun _ _ => rfl) (SE.call 9 rfl (by exact G.x_read_lines) rfl rfl (by decide) (SA.cons rfl (SE.loc 0 rfl rfl rfl) (SA.cons rfl (SE.loc 1 rfl rfl rfl) SA.nil))))
 (SSs.cons (SS.ifs (ST.cmp .gt rfl (SE.blt .len rfl (by exact G.x_len) bv_len rfl (by decide) rfl (by decide) (SA.cons rfl (SE.loc 2 rfl rfl rfl) SA.nil)) SE.int) (SSs.cons (SS.rai 3 T3 hx3 (by decide) rfl rfl rfl SE.int)
 SSs.nil) SSs.nil)
 (SSs.cons (SS.ret (SE.sub rfl (SE.loc 2 rfl rfl rfl) SE.int))
 SSs.nil)))
/-- refuse_if -/
theorem s11 (G : Gs g mg) {f3 : Addr} (T3 : PySem.OneX.LowTxt "BadLine" "line" "BadLine.__init__" g.K mg (g.ca 3) f3) (hx3 : g.xn 3 = "line") (d : Nat) : SSs (sgOf g mg P d ["is_wrong", "index"]) (defScope (top 20)) 2 (defBody (top 20)) b11 := by
  exact (SSs.cons (SS.ifs (ST.v (SE.loc 0 rfl rfl rfl) rfl rfl) (SSs.cons (SS.rai 3 T3 hx3 (by decide) rfl rfl rfl (SE.loc 1 rfl rfl rfl))
 SSs.nil) SSs.nil)
 SSs.nil)
/-- show_weights -/
theorem s12 (G : Gs g mg) (d : Nat) : SSs (sgOf g mg P d ["weights", "modulus", "listed"]) (defScope (top 27)) 2 (defBody (top 27)) b12 := by
  exact (SSs.cons (SS.unp (SG.t (by decide) rfl rfl (SGs.cons 1 rfl rfl (SGs.cons 2 rfl rfl SGs.nil))) (SE.loc 0 rfl rfl rfl) (fun _ _ => rfl) (fun _ => rfl))
 (SSs.cons (SS.frz [1] (SS.ret (SE.call 6 rfl (by exact G.x_spaced) rfl rfl (by decide) (SA.cons rfl (SE.bin .add (SE.lst (SA.cons rfl (SE.loc 1 rfl rfl rfl) (SA.cons rfl (SE.gstr [58] rfl (by exact G.x_COLON) (by decide) rfl) SA.nil))) (SE.loc 2 rfl rfl rfl)) SA.nil))))
 SSs.nil))
/-- read_weights_line -/
theorem s13 (G : Gs g mg) (d : Nat) : SSs (sgOf g mg P d ["line", "first", "second", "rest", "modulus", "listed"]) (defScope (top 28)) 2 (defBody (top 28)) b13 := by
  exact (SSs.cons (SS.mat (SE.call 5 rfl (by exact G.x_items_of) rfl rfl (by decide) (SA.cons rfl (SE.loc 0 rfl rfl rfl) SA.nil)) (SCs.star 3 (by decide) rfl (.cap 1 rfl rfl (.val [58] (by decide +kernel) (by decide) (.cap 2 rfl rfl .nil))) rfl rfl rfl (by decide) rfl rfl rfl (SSs.cons (SS.par 4 5 (by decide) rfl rfl (by decide) rfl rfl (fun env h => by unfold PySem.swappedStores PySem.Env.blockKind PySem.Env.kindOf; rw [h]; rfl) (SA.cons rfl (SE.call 1 rfl (by exact G.x_read_number) rfl rfl (by decide) (SA.cons rfl (SE.loc 1 rfl rfl rfl) SA.nil)) (SA.cons rfl (SE.call 3 rfl (by exact G.x_numbers_of) rfl rfl (by decide) (SA.cons rfl (SE.bin .add (SE.lst (SA.cons rfl (SE.loc 2 rfl rfl rfl) SA.nil)) (SE.loc 3 rfl rfl rfl)) SA.nil)) SA.nil)))
 (SSs.cons (SS.frz [4, 5] (SS.ret (SE.ite (ST.w (SW.or (ST.cmp .is rfl (SE.loc 4 rfl rfl rfl) SE.non) (SW.or1 (ST.cmp .is rfl (SE.loc 5 rfl rfl rfl) SE.non)))) SE.non (SE.tup (SA.cons rfl (SE.loc 4 rfl rfl rfl) (SA.cons rfl (SE.loc 5 rfl rfl rfl) SA.nil))))))
 SSs.nil)) (SCs.any (cs := .nil) (SSs.cons (SS.ret SE.non)
 SSs.nil))))
 SSs.nil)
/-- are_weights -/
theorem s14 (G : Gs g mg) (d : Nat) : SSs (sgOf g mg P d ["modulus", "listed", "weight"]) (defScope (top 29)) 2 (defBody (top 29)) b14 := by
  exact (SSs.cons (SS.ifs (ST.w (SW.or (ST.nt (ST.chn .le .le rfl (SE.gint 2 rfl (by exact G.x_LEAST_MODULUS) rfl) (SE.loc 0 rfl rfl rfl) (SE.gint 40 rfl (by exact G.x_GREATEST_MODULUS) rfl))) (SW.or1 (ST.cmp .gt rfl (SE.blt .len rfl (by exact G.x_len) bv_len rfl (by decide) rfl (by decide) (SA.cons rfl (SE.loc 1 rfl rfl rfl) SA.nil)) (SE.gint 12 rfl (by exact G.x_MOST_WEIGHTS) rfl))))) (SSs.cons (SS.ret (SE.bl false))
 SSs.nil) SSs.nil)
 (SSs.cons (SS.ret (SE.and (SE.blt .all rfl (by exact G.x_all) bv_all rfl (by decide) rfl (by decide) (SA.cons rfl (SE.lc [("weight", 2)] (by decide) (fun _ _ => rfl) rfl rfl (SI.seq (SE.loc 1 rfl rfl rfl)) (SG.v 2 rfl rfl) SC.nil (SE.cmp .lt rfl (SE.loc 2 rfl rfl rfl) (SE.loc 0 rfl rfl rfl))) SA.nil)) (SE.one (SE.cmp .le rfl (SE.bin .mul (SE.loc 0 rfl rfl rfl) (SE.blt .len rfl (by exact G.x_len) bv_len rfl (by decide) rfl (by decide) (SA.cons rfl (SE.loc 1 rfl rfl rfl) SA.nil))) (SE.gint 120 rfl (by exact G.x_MOST_STATES) rfl)))))
 SSs.nil))
/-- read_weights -/
theorem s15 (G : Gs g mg) (d : Nat) : SSs (sgOf g mg P d ["text", "modulus", "listed"]) (defScope (top 30)) 2 (defBody (top 30)) b15 := by
  exact (SSs.cons (SS.unp (SG.t (by decide) rfl rfl (SGs.cons 1 rfl rfl (SGs.cons 2 rfl rfl SGs.nil))) (SE.call 10 rfl (by exact G.x_read_only_line) rfl rfl (by decide) (SA.cons rfl (SE.loc 0 rfl rfl rfl) (SA.cons rfl (SE.fn 13 rfl (by exact G.x_read_weights_line) rfl) SA.nil))) (fun _ _ => rfl) (fun _ => rfl))
 (SSs.cons (SS.frz [1, 2] (SS.exp (fun _ _ => rfl) (SE.call 11 rfl (by exact G.x_refuse_if) rfl rfl (by decide) (SA.cons rfl (SE.nt (SE.call 14 rfl (by exact G.x_are_weights) rfl rfl (by decide) (SA.cons rfl (SE.loc 1 rfl rfl rfl) (SA.cons rfl (SE.loc 2 rfl rfl rfl) SA.nil)))) (SA.cons rfl SE.int SA.nil)))))
 (SSs.cons (SS.frz [1, 2] (SS.ret (SE.tup (SA.cons rfl (SE.loc 1 rfl rfl rfl) (SA.cons rfl (SE.loc 2 rfl rfl rfl) SA.nil)))))
 SSs.nil)))
/-- _law_numbers -/
theorem s16 (G : Gs g mg) (d : Nat) : SSs (sgOf g mg P d ["script", "at", "count", "cell", "numbers", "k", "mixed"]) (defScope (top 32)) 2 (defBody (top 32)) b16 := by
  exact (SSs.cons (SS.set 3 rfl rfl (fun _ _ => rfl) (SE.bin .mul SE.int (SE.bin .add (SE.loc 1 rfl rfl rfl) SE.int)))
 (SSs.cons (SS.ifs (ST.cmp .lt rfl (SE.loc 1 rfl rfl rfl) (SE.blt .len rfl (by exact G.x_len) bv_len rfl (by decide) rfl (by decide) (SA.cons rfl (SE.loc 0 rfl rfl rfl) SA.nil))) (SSs.cons (SS.set 3 rfl rfl (fun _ _ => rfl) (SE.blt .int rfl (by exact G.x_int) bv_int rfl (by decide) rfl (by decide) (SA.cons rfl (SE.sub rfl (SE.loc 0 rfl rfl rfl) (SE.loc 1 rfl rfl rfl)) SA.nil)))
 SSs.nil) SSs.nil)
 (SSs.cons (SS.ifs (ST.cmp .lt rfl (SE.loc 3 rfl rfl rfl) SE.int) (SSs.cons (SS.set 3 rfl rfl (fun _ _ => rfl) (SE.bin .sub SE.int (SE.bin .mul SE.int (SE.loc 3 rfl rfl rfl))))
 SSs.nil) SSs.nil)
 (SSs.cons (SS.set 4 rfl rfl (fun _ _ => rfl) (SE.lst SA.nil))
 (SSs.cons (SS.for [5, 6] (by decide) (fun _ _ => rfl) (SI.rng1 rfl rfl (by exact G.x_range) rfl (SA.cons rfl (SE.loc 2 rfl rfl rfl) SA.nil)) (SG.v 5 rfl rfl) (SSs.cons (SS.ifs (ST.cmp .ge rfl (SE.loc 3 rfl rfl rfl) (SE.bin .pow SE.int SE.int)) (SSs.cons (SS.app 4 rfl rfl rfl rfl rfl (SE.bin .mod (SE.loc 3 rfl rfl rfl) SE.int))
 (SSs.cons (SS.set 3 rfl rfl (fun _ _ => rfl) (SE.bin .fdiv (SE.loc 3 rfl rfl rfl) SE.int))
 SSs.nil)) (SSs.cons (SS.set 6 rfl rfl (fun _ _ => rfl) (SE.bin .mod (SE.bin .add (SE.bin .add (SE.bin .mul (SE.loc 3 rfl rfl rfl) SE.int) (SE.bin .mul (SE.bin .add (SE.loc 5 rfl rfl rfl) SE.int) SE.int)) (SE.bin .mul (SE.loc 1 rfl rfl rfl) SE.int)) SE.int))
 (SSs.cons (SS.set 6 rfl rfl (fun _ _ => rfl) (SE.bin .mod (SE.bin .add (SE.bin .mul (SE.loc 6 rfl rfl rfl) (SE.loc 6 rfl rfl rfl)) (SE.bin .mul SE.int (SE.bin .add (SE.loc 5 rfl rfl rfl) SE.int))) SE.int))
 (SSs.cons (SS.app 4 rfl rfl rfl rfl rfl (SE.bin .mod (SE.bin .fdiv (SE.loc 6 rfl rfl rfl) SE.int) SE.int))
 SSs.nil))))
 SSs.nil))
 (SSs.cons (SS.rtl 4 rfl rfl rfl)
 SSs.nil))))))
/-- _law_is_integer -/
theorem s17 (G : Gs g mg) (d : Nat) : SSs (sgOf g mg P d ["value"]) (defScope (top 33)) 2 (defBody (top 33)) b17 := by
  exact (SSs.cons (SS.ret (SE.and (SE.blt .isinst rfl (by exact G.x_isinstance) bv_isinstance rfl (by decide) rfl (by decide) (SA.cons rfl (SE.loc 0 rfl rfl rfl) (SA.cons rfl (SE.ty 0 rfl (by exact G.x_int) bt_int (by decide) rfl) SA.nil))) (SE.one (SE.nt (SE.blt .isinst rfl (by exact G.x_isinstance) bv_isinstance rfl (by decide) rfl (by decide) (SA.cons rfl (SE.loc 0 rfl rfl rfl) (SA.cons rfl (SE.ty 4 rfl (by exact G.x_bool) bt_bool (by decide) rfl) SA.nil)))))))
 SSs.nil)
/-- _law_same -/
theorem s18 (G : Gs g mg) (d : Nat) : SSs (sgOf g mg P d ["actual", "due", "k"]) (defScope (top 34)) 2 (defBody (top 34)) b18 := by
  exact (SSs.cons (SS.ifs (ST.v (SE.blt .isinst rfl (by exact G.x_isinstance) bv_isinstance rfl (by decide) rfl (by decide) (SA.cons rfl (SE.loc 1 rfl rfl rfl) (SA.cons rfl (SE.tup (SA.cons rfl (SE.ty 2 rfl (by exact G.x_list) bt_list (by decide) rfl) (SA.cons rfl (SE.ty 3 rfl (by exact G.x_tuple) bt_tuple (by decide) rfl) SA.nil))) SA.nil))) rfl rfl) (SSs.cons (SS.ifs (ST.w (SW.or (ST.cmp .ne rfl (SE.blt .isinst rfl (by exact G.x_isinstance) bv_isinstance rfl (by decide) rfl (by decide) (SA.cons rfl (SE.loc 0 rfl rfl rfl) (SA.cons rfl (SE.ty 2 rfl (by exact G.x_list) bt_list (by decide) rfl) SA.nil))) (SE.blt .isinst rfl (by exact G.x_isinstance) bv_isinstance rfl (by decide) rfl (by decide) (SA.cons rfl (SE.loc 1 rfl rfl rfl) (SA.cons rfl (SE.ty 2 rfl (by exact G.x_list) bt_list (by decide) rfl) SA.nil)))) (SW.or1 (ST.cmp .ne rfl (SE.blt .isinst rfl (by exact G.x_isinstance) bv_isinstance rfl (by decide) rfl (by decide) (SA.cons rfl (SE.loc 0 rfl rfl rfl) (SA.cons rfl (SE.ty 3 rfl (by exact G.x_tuple) bt_tuple (by decide) rfl) SA.nil))) (SE.blt .isinst rfl (by exact G.x_isinstance) bv_isinstance rfl (by decide) rfl (by decide) (SA.cons rfl (SE.loc 1 rfl rfl rfl) (SA.cons rfl (SE.ty 3 rfl (by exact G.x_tuple) bt_tuple (by decide) rfl) SA.nil))))))) (SSs.cons (SS.ret (SE.bl false))
 SSs.nil) SSs.nil)
 (SSs.cons (SS.ifs (ST.cmp .ne rfl (SE.blt .len rfl (by exact G.x_len) bv_len rfl (by decide) rfl (by decide) (SA.cons rfl (SE.loc 0 rfl rfl rfl) SA.nil)) (SE.blt .len rfl (by exact G.x_len) bv_len rfl (by decide) rfl (by decide) (SA.cons rfl (SE.loc 1 rfl rfl rfl) SA.nil))) (SSs.cons (SS.ret (SE.bl false))
 SSs.nil) SSs.nil)
 (SSs.cons (SS.for [2] (by decide) (fun _ _ => rfl) (SI.rng1 rfl rfl (by exact G.x_range) rfl (SA.cons rfl (SE.blt .len rfl (by exact G.x_len) bv_len rfl (by decide) rfl (by decide) (SA.cons rfl (SE.loc 1 rfl rfl rfl) SA.nil)) SA.nil)) (SG.v 2 rfl rfl) (SSs.cons (SS.ifs (ST.nt (ST.v (SE.call 18 rfl (by exact G.x__law_same) rfl rfl (by decide) (SA.cons rfl (SE.sub rfl (SE.loc 0 rfl rfl rfl) (SE.loc 2 rfl rfl rfl)) (SA.cons rfl (SE.sub rfl (SE.loc 1 rfl rfl rfl) (SE.loc 2 rfl rfl rfl)) SA.nil))) rfl rfl)) (SSs.cons (SS.ret (SE.bl false))
 SSs.nil) SSs.nil)
 SSs.nil))
 (SSs.cons (SS.ret (SE.bl true))
 SSs.nil)))) SSs.nil)
 (SSs.cons (SS.ifs (ST.cmp .is rfl (SE.loc 1 rfl rfl rfl) SE.non) (SSs.cons (SS.ret (SE.cmp .is rfl (SE.loc 0 rfl rfl rfl) SE.non))
 SSs.nil) SSs.nil)
 (SSs.cons (SS.ifs (ST.v (SE.blt .isinst rfl (by exact G.x_isinstance) bv_isinstance rfl (by decide) rfl (by decide) (SA.cons rfl (SE.loc 1 rfl rfl rfl) (SA.cons rfl (SE.ty 1 rfl (by exact G.x_str) bt_str (by decide) rfl) SA.nil))) rfl rfl) (SSs.cons (SS.ret (SE.and (SE.blt .isinst rfl (by exact G.x_isinstance) bv_isinstance rfl (by decide) rfl (by decide) (SA.cons rfl (SE.loc 0 rfl rfl rfl) (SA.cons rfl (SE.ty 1 rfl (by exact G.x_str) bt_str (by decide) rfl) SA.nil))) (SE.one (SE.cmp .eq rfl (SE.loc 0 rfl rfl rfl) (SE.loc 1 rfl rfl rfl)))))
 SSs.nil) SSs.nil)
 (SSs.cons (SS.ret (SE.and (SE.call 17 rfl (by exact G.x__law_is_integer) rfl rfl (by decide) (SA.cons rfl (SE.loc 0 rfl rfl rfl) SA.nil)) (SE.one (SE.cmp .eq rfl (SE.loc 0 rfl rfl rfl) (SE.loc 1 rfl rfl rfl)))))
 SSs.nil))))
/-- _law_numbers_of -/
theorem s19 (G : Gs g mg) (d : Nat) : SSs (sgOf g mg P d ["items", "found", "item", "sign"]) (defScope (top 35)) 2 (defBody (top 35)) b19 := by
  exact (SSs.cons (SS.set 1 rfl rfl (fun _ _ => rfl) (SE.lst SA.nil))
 (SSs.cons (SS.for [2] (by decide) (fun _ _ => rfl) (SI.seq (SE.loc 0 rfl rfl rfl)) (SG.v 2 rfl rfl) (SSs.cons (SS.ifs (ST.w (SW.or (ST.cmp .eq rfl (SE.loc 2 rfl rfl rfl) (SE.str [] (by decide +kernel) (by decide))) (SW.or (ST.cmp .gt rfl (SE.blt .len rfl (by exact G.x_len) bv_len rfl (by decide) rfl (by decide) (SA.cons rfl (SE.loc 2 rfl rfl rfl) SA.nil)) SE.int) (SW.or (ST.v (SE.lc [("sign", 3)] (by decide) (fun _ _ => rfl) rfl rfl (SI.seq (SE.loc 2 rfl rfl rfl)) (SG.v 3 rfl rfl) (SC.one (ST.cmp .notin rfl (SE.loc 3 rfl rfl rfl) (SE.str [48, 49, 50, 51, 52, 53, 54, 55, 56, 57] (by decide +kernel) (by decide)))) (SE.loc 3 rfl rfl rfl)) rfl rfl) (SW.or1 (ST.w (SW.and (ST.cmp .eq rfl (SE.sub rfl (SE.loc 2 rfl rfl rfl) SE.int) (SE.str [48] (by decide +kernel) (by decide))) (SW.and1 (ST.cmp .ne rfl (SE.loc 2 rfl rfl rfl) (SE.str [48] (by decide +kernel) (by decide))))))))))) (SSs.cons (SS.ret SE.non)
 SSs.nil) SSs.nil)
 (SSs.cons (SS.app 1 rfl rfl rfl rfl rfl (SE.blt .int rfl (by exact G.x_int) bv_int rfl (by decide) rfl (by decide) (SA.cons rfl (SE.loc 2 rfl rfl rfl) SA.nil)))
 SSs.nil)))
 (SSs.cons (SS.rtl 1 rfl rfl rfl)
 SSs.nil)))
/-- _law_line -/
theorem s20 (G : Gs g mg) (d : Nat) : SSs (sgOf g mg P d ["line", "items", "numbers"]) (defScope (top 36)) 2 (defBody (top 36)) b20 := by
  exact (SSs.cons (SS.set 1 rfl rfl (fun _ _ => rfl) (SE.mth .split rfl rfl rfl rfl rfl (SE.loc 0 rfl rfl rfl) (SA.cons rfl (SE.str [32] (by decide +kernel) (by decide)) SA.nil)))
 (SSs.cons (SS.ifs (ST.w (SW.or (ST.cmp .lt rfl (SE.blt .len rfl (by exact G.x_len) bv_len rfl (by decide) rfl (by decide) (SA.cons rfl (SE.loc 1 rfl rfl rfl) SA.nil)) SE.int) (SW.or1 (ST.cmp .ne rfl (SE.sub rfl (SE.loc 1 rfl rfl rfl) SE.int) (SE.str [58] (by decide +kernel) (by decide)))))) (SSs.cons (SS.ret SE.non)
 SSs.nil) SSs.nil)
 (SSs.cons (SS.set 2 rfl rfl (fun _ _ => rfl) (SE.call 19 rfl (by exact G.x__law_numbers_of) rfl rfl (by decide) (SA.cons rfl (SE.bin .add (SE.slc (SE.loc 1 rfl rfl rfl) SP.none (SP.some SE.int)) (SE.slc (SE.loc 1 rfl rfl rfl) (SP.some SE.int) SP.none)) SA.nil)))
 (SSs.cons (SS.ifs (ST.cmp .is rfl (SE.loc 2 rfl rfl rfl) SE.non) (SSs.cons (SS.ret SE.non)
 SSs.nil) SSs.nil)
 (SSs.cons (SS.ret (SE.tup (SA.cons rfl (SE.sub rfl (SE.loc 2 rfl rfl rfl) SE.int) (SA.cons rfl (SE.slc (SE.loc 2 rfl rfl rfl) (SP.some SE.int) SP.none) SA.nil))))
 SSs.nil)))))
/-- _law_due -/
theorem s21 (G : Gs g mg) (d : Nat) : SSs (sgOf g mg P d ["which", "text", "lines", "at", "modulus", "listed", "weight"]) (defScope (top 37)) 2 (defBody (top 37)) b21 := by
  exact (SSs.cons (SS.set 2 rfl rfl (fun _ _ => rfl) (SE.mth .split rfl rfl rfl rfl rfl (SE.loc 1 rfl rfl rfl) (SA.cons rfl (SE.str [10] (by decide +kernel) (by decide)) SA.nil)))
 (SSs.cons (SS.for [3] (by decide) (fun _ _ => rfl) (SI.rng1 rfl rfl (by exact G.x_range) rfl (SA.cons rfl (SE.blt .len rfl (by exact G.x_len) bv_len rfl (by decide) rfl (by decide) (SA.cons rfl (SE.loc 2 rfl rfl rfl) SA.nil)) SA.nil)) (SG.v 3 rfl rfl) (SSs.cons (SS.ifs (ST.cmp .is rfl (SE.call 20 rfl (by exact G.x__law_line) rfl rfl (by decide) (SA.cons rfl (SE.sub rfl (SE.loc 2 rfl rfl rfl) (SE.loc 3 rfl rfl rfl)) SA.nil)) SE.non) (SSs.cons (SS.frz [3] (SS.ret (SE.tup (SA.cons rfl (SE.bl false) (SA.cons rfl (SE.loc 3 rfl rfl rfl) SA.nil)))))
 SSs.nil) SSs.nil)
 SSs.nil))
 (SSs.cons (SS.ifs (ST.cmp .gt rfl (SE.blt .len rfl (by exact G.x_len) bv_len rfl (by decide) rfl (by decide) (SA.cons rfl (SE.loc 2 rfl rfl rfl) SA.nil)) SE.int) (SSs.cons (SS.ret (SE.tup (SA.cons rfl (SE.bl false) (SA.cons rfl SE.int SA.nil))))
 SSs.nil) SSs.nil)
 (SSs.cons (SS.unp (SG.t (by decide) rfl rfl (SGs.cons 4 rfl rfl (SGs.cons 5 rfl rfl SGs.nil))) (SE.call 20 rfl (by exact G.x__law_line) rfl rfl (by decide) (SA.cons rfl (SE.loc 1 rfl rfl rfl) SA.nil)) (fun _ _ => rfl) (fun _ => rfl))
 (SSs.cons (SS.ifs (ST.w (SW.or (ST.nt (ST.chn .le .le rfl SE.int (SE.loc 4 rfl rfl rfl) SE.int)) (SW.or (ST.cmp .gt rfl (SE.blt .len rfl (by exact G.x_len) bv_len rfl (by decide) rfl (by decide) (SA.cons rfl (SE.loc 5 rfl rfl rfl) SA.nil)) SE.int) (SW.or (ST.cmp .ne rfl (SE.lc [("weight", 6)] (by decide) (fun _ _ => rfl) rfl rfl (SI.seq (SE.loc 5 rfl rfl rfl)) (SG.v 6 rfl rfl) (SC.one (ST.cmp .ge rfl (SE.loc 6 rfl rfl rfl) (SE.loc 4 rfl rfl rfl))) (SE.loc 6 rfl rfl rfl)) (SE.lst SA.nil)) (SW.or1 (ST.cmp .gt rfl (SE.bin .mul (SE.loc 4 rfl rfl rfl) (SE.blt .len rfl (by exact G.x_len) bv_len rfl (by decide) rfl (by decide) (SA.cons rfl (SE.loc 5 rfl rfl rfl) SA.nil))) SE.int)))))) (SSs.cons (SS.ret (SE.tup (SA.cons rfl (SE.bl false) (SA.cons rfl SE.int SA.nil))))
 SSs.nil) SSs.nil)
 (SSs.cons (SS.frz [4, 5] (SS.ret (SE.tup (SA.cons rfl (SE.bl true) (SA.cons rfl (SE.tup (SA.cons rfl (SE.loc 4 rfl rfl rfl) (SA.cons rfl (SE.loc 5 rfl rfl rfl) SA.nil))) SA.nil)))))
 SSs.nil))))))
/-- _law_told -/
theorem s22 (G : Gs g mg) (X0 : ∀ d N, XT (sgOf g mg P d N)) {f3 : Addr} (T3 : PySem.OneX.LowTxt "BadLine" "line" "BadLine.__init__" g.K mg (g.ca 3) f3) (hx3 : g.xn 3 = "line") (d : Nat) : SSs (sgOf g mg P d ["which", "text", "e"]) (defScope (top 38)) 2 (defBody (top 38)) b22 := by
  exact (SSs.cons (SS.tryAs (X0 _ _) 3 2 (show 3 < 4 from by decide) (by decide) rfl rfl rfl (by exact G.x_BadLine) rfl (SSs.cons (SS.ret (SE.tup (SA.cons rfl (SE.bl true) (SA.cons rfl (SE.call 15 rfl (by exact G.x_read_weights) rfl rfl (by decide) (SA.cons rfl (SE.loc 1 rfl rfl rfl) SA.nil)) SA.nil))))
 SSs.nil) (SSs.cons (SS.ifs (ST.w (SW.or (ST.nt (ST.v (SE.xis1 (X0 _ _) 2 0 rfl rfl rfl rfl rfl rfl (by exact G.x_isinstance) rfl (by exact G.x_SlipError) rfl) rfl rfl)) (SW.or1 (ST.v (SE.xisT (X0 _ _) 2 rfl rfl rfl rfl rfl rfl (by exact G.x_isinstance) (by decide) (.cons 2 rfl (by exact G.x_BadNumbers) rfl (.cons 1 rfl (by exact G.x_BadScheme) rfl .nil))) rfl rfl)))) (SSs.cons (SS.ret (SE.tup (SA.cons rfl (SE.bl false) (SA.cons rfl SE.non SA.nil))))
 SSs.nil) SSs.nil)
 (SSs.cons (SS.ret (SE.tup (SA.cons rfl (SE.bl false) (SA.cons rfl (SE.xfl 2 3 T3 hx3 rfl rfl rfl rfl) SA.nil))))
 SSs.nil)))
 SSs.nil)
/-- _law_read_right -/
theorem s23 (G : Gs g mg) (d : Nat) : SSs (sgOf g mg P d ["which", "text", "due", "actual"]) (defScope (top 39)) 2 (defBody (top 39)) b23 := by
  exact (SSs.cons (SS.set 2 rfl rfl (fun _ _ => rfl) (SE.call 21 rfl (by exact G.x__law_due) rfl rfl (by decide) (SA.cons rfl (SE.loc 0 rfl rfl rfl) (SA.cons rfl (SE.loc 1 rfl rfl rfl) SA.nil))))
 (SSs.cons (SS.set 3 rfl rfl (fun _ _ => rfl) (SE.call 22 rfl (by exact G.x__law_told) rfl rfl (by decide) (SA.cons rfl (SE.loc 0 rfl rfl rfl) (SA.cons rfl (SE.loc 1 rfl rfl rfl) SA.nil))))
 (SSs.cons (SS.ret (SE.and (SE.cmp .eq rfl (SE.sub rfl (SE.loc 3 rfl rfl rfl) SE.int) (SE.sub rfl (SE.loc 2 rfl rfl rfl) SE.int)) (SE.one (SE.call 18 rfl (by exact G.x__law_same) rfl rfl (by decide) (SA.cons rfl (SE.sub rfl (SE.loc 3 rfl rfl rfl) SE.int) (SA.cons rfl (SE.sub rfl (SE.loc 2 rfl rfl rfl) SE.int) SA.nil))))))
 SSs.nil)))
/-- _law_changed -/
theorem s24 (G : Gs g mg) (d : Nat) : SSs (sgOf g mg P d ["text", "numbers", "at", "sign", "lines", "line", "other", "way", "words", "found"]) (defScope (top 40)) 2 (defBody (top 40)) b24 := by
  exact (SSs.cons (SS.set 2 rfl rfl (fun _ _ => rfl) (SE.bin .mod (SE.blt .int rfl (by exact G.x_int) bv_int rfl (by decide) rfl (by decide) (SA.cons rfl (SE.bin .add (SE.bin .mul (SE.sub rfl (SE.loc 1 rfl rfl rfl) SE.int) SE.int) (SE.sub rfl (SE.loc 1 rfl rfl rfl) SE.int)) SA.nil)) (SE.bin .add (SE.blt .len rfl (by exact G.x_len) bv_len rfl (by decide) rfl (by decide) (SA.cons rfl (SE.loc 0 rfl rfl rfl) SA.nil)) SE.int)))
 (SSs.cons (SS.set 3 rfl rfl (fun _ _ => rfl) (SE.sub rfl (SE.str [48, 49, 50, 51, 52, 53, 54, 55, 56, 57, 32, 45, 97, 58, 32, 48, 58, 10] (by decide +kernel) (by decide)) (SE.bin .mod (SE.blt .int rfl (by exact G.x_int) bv_int rfl (by decide) rfl (by decide) (SA.cons rfl (SE.sub rfl (SE.loc 1 rfl rfl rfl) SE.int) SA.nil)) SE.int)))
 (SSs.cons (SS.set 4 rfl rfl (fun _ _ => rfl) (SE.mth .split rfl rfl rfl rfl rfl (SE.loc 0 rfl rfl rfl) (SA.cons rfl (SE.str [10] (by decide +kernel) (by decide)) SA.nil)))
 (SSs.cons (SS.set 5 rfl rfl (fun _ _ => rfl) (SE.bin .mod (SE.blt .int rfl (by exact G.x_int) bv_int rfl (by decide) rfl (by decide) (SA.cons rfl (SE.sub rfl (SE.loc 1 rfl rfl rfl) SE.int) SA.nil)) (SE.blt .len rfl (by exact G.x_len) bv_len rfl (by decide) rfl (by decide) (SA.cons rfl (SE.loc 4 rfl rfl rfl) SA.nil))))
 (SSs.cons (SS.set 6 rfl rfl (fun _ _ => rfl) (SE.bin .mod (SE.blt .int rfl (by exact G.x_int) bv_int rfl (by decide) rfl (by decide) (SA.cons rfl (SE.sub rfl (SE.loc 1 rfl rfl rfl) SE.int) SA.nil)) (SE.blt .len rfl (by exact G.x_len) bv_len rfl (by decide) rfl (by decide) (SA.cons rfl (SE.loc 4 rfl rfl rfl) SA.nil))))
 (SSs.cons (SS.set 7 rfl rfl (fun _ _ => rfl) (SE.bin .mod (SE.blt .int rfl (by exact G.x_int) bv_int rfl (by decide) rfl (by decide) (SA.cons rfl (SE.sub rfl (SE.loc 1 rfl rfl rfl) SE.int) SA.nil)) SE.int))
 (SSs.cons (SS.ifs (ST.cmp .lt rfl (SE.loc 7 rfl rfl rfl) SE.int) (SSs.cons (SS.ret (SE.bin .add (SE.slc (SE.loc 0 rfl rfl rfl) SP.none (SP.some (SE.loc 2 rfl rfl rfl))) (SE.slc (SE.loc 0 rfl rfl rfl) (SP.some (SE.bin .add (SE.loc 2 rfl rfl rfl) SE.int)) SP.none)))
 SSs.nil) SSs.nil)
 (SSs.cons (SS.ifs (ST.cmp .lt rfl (SE.loc 7 rfl rfl rfl) SE.int) (SSs.cons (SS.ret (SE.bin .add (SE.bin .add (SE.slc (SE.loc 0 rfl rfl rfl) SP.none (SP.some (SE.loc 2 rfl rfl rfl))) (SE.loc 3 rfl rfl rfl)) (SE.slc (SE.loc 0 rfl rfl rfl) (SP.some (SE.loc 2 rfl rfl rfl)) SP.none)))
 SSs.nil) SSs.nil)
 (SSs.cons (SS.ifs (ST.cmp .lt rfl (SE.loc 7 rfl rfl rfl) SE.int) (SSs.cons (SS.ret (SE.bin .add (SE.bin .add (SE.slc (SE.loc 0 rfl rfl rfl) SP.none (SP.some (SE.loc 2 rfl rfl rfl))) (SE.loc 3 rfl rfl rfl)) (SE.slc (SE.loc 0 rfl rfl rfl) (SP.some (SE.bin .add (SE.loc 2 rfl rfl rfl) SE.int)) SP.none)))
 SSs.nil) SSs.nil)
 (SSs.cons (SS.ifs (ST.cmp .eq rfl (SE.loc 7 rfl rfl rfl) SE.int) (SSs.cons (SS.ret (SE.mth .join rfl rfl rfl rfl rfl (SE.str [10] (by decide +kernel) (by decide)) (SA.cons rfl (SE.bin .add (SE.bin .add (SE.slc (SE.loc 4 rfl rfl rfl) SP.none (SP.some (SE.loc 5 rfl rfl rfl))) (SE.lst (SA.cons rfl (SE.sub rfl (SE.loc 4 rfl rfl rfl) (SE.loc 6 rfl rfl rfl)) SA.nil))) (SE.slc (SE.loc 4 rfl rfl rfl) (SP.some (SE.loc 5 rfl rfl rfl)) SP.none)) SA.nil)))
 SSs.nil) SSs.nil)
 (SSs.cons (SS.ifs (ST.cmp .eq rfl (SE.loc 7 rfl rfl rfl) SE.int) (SSs.cons (SS.ret (SE.mth .join rfl rfl rfl rfl rfl (SE.str [10] (by decide +kernel) (by decide)) (SA.cons rfl (SE.bin .add (SE.slc (SE.loc 4 rfl rfl rfl) SP.none (SP.some (SE.loc 5 rfl rfl rfl))) (SE.slc (SE.loc 4 rfl rfl rfl) (SP.some (SE.bin .add (SE.loc 5 rfl rfl rfl) SE.int)) SP.none)) SA.nil)))
 SSs.nil) SSs.nil)
 (SSs.cons (SS.ifs (ST.cmp .eq rfl (SE.loc 7 rfl rfl rfl) SE.int) (SSs.cons (SS.ret (SE.sub rfl (SE.lst (SA.bump rfl (SB.bin .add (SE.loc 0 rfl rfl rfl) (SB.str [10] (by decide +kernel) (by decide))) (SAT.cons rfl (SET.of (SE.bin .add (SE.str [10] (by decide +kernel) (by decide)) (SE.loc 0 rfl rfl rfl))) (SAT.cons rfl (SET.of (SE.bin .add (SE.loc 0 rfl rfl rfl) (SE.str [32] (by decide +kernel) (by decide)))) (SAT.cons rfl (SET.of (SE.bin .add (SE.str [32] (by decide +kernel) (by decide)) (SE.loc 0 rfl rfl rfl))) (SAT.cons rfl (SET.rep1 [32] [32, 32] (by decide +kernel) (by decide +kernel) (by decide) (by decide) (by decide) rfl rfl (SE.loc 0 rfl rfl rfl)) SAT.nil)))))) (SE.bin .mod (SE.blt .int rfl (by exact G.x_int) bv_int rfl (by decide) rfl (by decide) (SA.cons rfl (SE.sub rfl (SE.loc 1 rfl rfl rfl) SE.int) SA.nil)) SE.int)))
 SSs.nil) SSs.nil)
 (SSs.cons (SS.ifs (ST.cmp .lt rfl (SE.loc 7 rfl rfl rfl) SE.int) (SSs.cons (SS.swp 4 (by decide) rfl rfl rfl rfl rfl (fun env h => swp_sw) (SE.loc 5 rfl rfl rfl) (SE.loc 6 rfl rfl rfl) (SA.cons rfl (SE.sub rfl (SE.loc 4 rfl rfl rfl) (SE.loc 6 rfl rfl rfl)) (SA.cons rfl (SE.sub rfl (SE.loc 4 rfl rfl rfl) (SE.loc 5 rfl rfl rfl)) SA.nil)))
 (SSs.cons (SS.ret (SE.mth .join rfl rfl rfl rfl rfl (SE.str [10] (by decide +kernel) (by decide)) (SA.cons rfl (SE.loc 4 rfl rfl rfl) SA.nil)))
 SSs.nil)) SSs.nil)
 (SSs.cons (SS.set 8 rfl rfl (fun _ _ => rfl) (SE.mth .split rfl rfl rfl rfl rfl (SE.sub rfl (SE.loc 4 rfl rfl rfl) (SE.loc 5 rfl rfl rfl)) (SA.cons rfl (SE.str [32] (by decide +kernel) (by decide)) SA.nil)))
 (SSs.cons (SS.set 9 rfl rfl (fun _ _ => rfl) (SE.lst (SA.cons rfl (SE.str [48] (by decide +kernel) (by decide)) (SA.cons rfl (SE.str [49] (by decide +kernel) (by decide)) (SA.cons rfl (SE.str [50] (by decide +kernel) (by decide)) (SA.cons rfl (SE.str [52, 48] (by decide +kernel) (by decide)) (SA.cons rfl (SE.str [52, 49] (by decide +kernel) (by decide)) (SA.cons rfl (SE.str [48, 49] (by decide +kernel) (by decide)) (SA.cons rfl (SE.str [45, 49] (by decide +kernel) (by decide)) (SA.cons rfl (SE.str [] (by decide +kernel) (by decide)) (SA.cons rfl (SE.str [97] (by decide +kernel) (by decide)) (SA.cons rfl (SE.str [58] (by decide +kernel) (by decide)) (SA.cons rfl (SE.bin .mul (SE.str [49] (by decide +kernel) (by decide)) SE.int) (SA.cons rfl (SE.bin .mul (SE.str [49] (by decide +kernel) (by decide)) SE.int) (SA.cons rfl (SE.sub rfl (SE.loc 8 rfl rfl rfl) SE.int) (SA.cons rfl (SE.sub rfl (SE.loc 8 rfl rfl rfl) (SE.neg SE.int)) (SA.cons rfl (SE.str [48, 32, 48] (by decide +kernel) (by decide)) (SA.cons rfl (SE.str [58, 32, 49] (by decide +kernel) (by decide)) (SA.cons rfl (SE.str [49, 48, 32, 49, 48, 32, 49, 48] (by decide +kernel) (by decide)) SA.nil)))))))))))))))))))
 (SSs.cons (SS.put 8 rfl rfl rfl rfl (fun _ _ => rfl) (SE.bin .mod (SE.blt .int rfl (by exact G.x_int) bv_int rfl (by decide) rfl (by decide) (SA.cons rfl (SE.bin .add (SE.sub rfl (SE.loc 1 rfl rfl rfl) SE.int) (SE.sub rfl (SE.loc 1 rfl rfl rfl) SE.int)) SA.nil)) (SE.blt .len rfl (by exact G.x_len) bv_len rfl (by decide) rfl (by decide) (SA.cons rfl (SE.loc 8 rfl rfl rfl) SA.nil))) (SE.sub rfl (SE.loc 9 rfl rfl rfl) (SE.bin .mod (SE.blt .int rfl (by exact G.x_int) bv_int rfl (by decide) rfl (by decide) (SA.cons rfl (SE.sub rfl (SE.loc 1 rfl rfl rfl) SE.int) SA.nil)) (SE.blt .len rfl (by exact G.x_len) bv_len rfl (by decide) rfl (by decide) (SA.cons rfl (SE.loc 9 rfl rfl rfl) SA.nil)))))
 (SSs.cons (SS.put 4 rfl rfl rfl rfl (fun _ _ => rfl) (SE.loc 5 rfl rfl rfl) (SE.mth .join rfl rfl rfl rfl rfl (SE.str [32] (by decide +kernel) (by decide)) (SA.cons rfl (SE.loc 8 rfl rfl rfl) SA.nil)))
 (SSs.cons (SS.ret (SE.mth .join rfl rfl rfl rfl rfl (SE.str [10] (by decide +kernel) (by decide)) (SA.cons rfl (SE.loc 4 rfl rfl rfl) SA.nil)))
 SSs.nil))))))))))))))))))
/-- _law_text -/
theorem s25 (G : Gs g mg) (d : Nat) : SSs (sgOf g mg P d ["weights", "weight"]) (defScope (top 41)) 2 (defBody (top 41)) b25 := by
  exact (SSs.cons (SS.ret (SE.mth .join rfl rfl rfl rfl rfl (SE.str [32] (by decide +kernel) (by decide)) (SA.cons rfl (SE.bin .add (SE.lst (SA.cons rfl (SE.blt .str rfl (by exact G.x_str) bv_str rfl (by decide) rfl (by decide) (SA.cons rfl (SE.sub rfl (SE.loc 0 rfl rfl rfl) SE.int) SA.nil)) (SA.cons rfl (SE.str [58] (by decide +kernel) (by decide)) SA.nil))) (SE.lc [("weight", 1)] (by decide) (fun _ _ => rfl) rfl rfl (SI.seq (SE.sub rfl (SE.loc 0 rfl rfl rfl) SE.int)) (SG.v 1 rfl rfl) SC.nil (SE.blt .str rfl (by exact G.x_str) bv_str rfl (by decide) rfl (by decide) (SA.cons rfl (SE.loc 1 rfl rfl rfl) SA.nil)))) SA.nil)))
 SSs.nil)
/-- law -/
theorem s26 (G : Gs g mg) (d : Nat) : SSs (sgOf g mg P d ["script", "sizes", "modulus", "most", "listed", "k", "text", "handed", "shown", "told", "texts", "other", "turn", "numbers", "changed"]) (defScope (top 42)) 2 (defBody (top 42)) b26 := by
  exact (SSs.cons (SS.set 1 rfl rfl (fun _ _ => rfl) (SE.call 16 rfl (by exact G.x__law_numbers) rfl rfl (by decide) (SA.cons rfl (SE.loc 0 rfl rfl rfl) (SA.cons rfl SE.int (SA.cons rfl SE.int SA.nil)))))
 (SSs.cons (SS.set 2 rfl rfl (fun _ _ => rfl) (SE.sub rfl (SE.lst (SA.cons rfl SE.int (SA.cons rfl SE.int (SA.cons rfl (SE.bin .add SE.int (SE.bin .mod (SE.sub rfl (SE.loc 1 rfl rfl rfl) SE.int) SE.int)) (SA.cons rfl SE.int (SA.cons rfl SE.int SA.nil)))))) (SE.bin .mod (SE.sub rfl (SE.loc 1 rfl rfl rfl) SE.int) SE.int)))
 (SSs.cons (SS.set 3 rfl rfl (fun _ _ => rfl) (SE.blt .min rfl (by exact G.x_min) bv_min rfl (by decide) rfl (by decide) (SA.cons rfl SE.int (SA.cons rfl (SE.bin .fdiv SE.int (SE.loc 2 rfl rfl rfl)) SA.nil))))
 (SSs.cons (SS.setLc 4 [("k", 5)] (by decide) rfl rfl rfl rfl (fun _ _ => rfl) rfl rfl (SI.rng1 rfl rfl (by exact G.x_range) rfl (SA.cons rfl (SE.bin .add SE.int (SE.bin .mod (SE.sub rfl (SE.loc 1 rfl rfl rfl) SE.int) (SE.loc 3 rfl rfl rfl))) SA.nil)) (SG.v 5 rfl rfl) SC.nil (SE.sub rfl (SE.lst (SA.cons rfl (SE.bin .mod (SE.sub rfl (SE.loc 1 rfl rfl rfl) (SE.bin .add SE.int (SE.loc 5 rfl rfl rfl))) (SE.loc 2 rfl rfl rfl)) (SA.cons rfl (SE.bin .sub (SE.loc 2 rfl rfl rfl) SE.int) (SA.cons rfl SE.int SA.nil)))) (SE.bin .mod (SE.bin .fdiv (SE.sub rfl (SE.loc 1 rfl rfl rfl) SE.int) (SE.bin .add (SE.loc 5 rfl rfl rfl) SE.int)) SE.int)) rfl)
 (SSs.cons (SS.frz [2, 4] (SS.set 6 rfl rfl (fun _ _ => rfl) (SE.call 25 rfl (by exact G.x__law_text) rfl rfl (by decide) (SA.cons rfl (SE.tup (SA.cons rfl (SE.loc 2 rfl rfl rfl) (SA.cons rfl (SE.loc 4 rfl rfl rfl) SA.nil))) SA.nil))))
 (SSs.cons (SS.frz [2] (SS.set 7 rfl rfl (fun _ _ => rfl) (SE.tup (SA.cons rfl (SE.loc 2 rfl rfl rfl) (SA.cons rfl (SE.blt .list rfl (by exact G.x_list) bv_list rfl (by decide) rfl (by decide) (SA.cons rfl (SE.loc 4 rfl rfl rfl) SA.nil)) SA.nil)))))
 (SSs.cons (SS.frz [7] (SS.set 8 rfl rfl (fun _ _ => rfl) (SE.call 12 rfl (by exact G.x_show_weights) rfl rfl (by decide) (SA.cons rfl (SE.loc 7 rfl rfl rfl) SA.nil))))
 (SSs.cons (SS.frz [6] (SS.set 9 rfl rfl (fun _ _ => rfl) (SE.call 22 rfl (by exact G.x__law_told) rfl rfl (by decide) (SA.cons rfl SE.int (SA.cons rfl (SE.loc 6 rfl rfl rfl) SA.nil)))))
 (SSs.cons (SS.frz [2, 4] (SS.ifs (ST.w (SW.or (ST.nt (ST.v (SE.blt .isinst rfl (by exact G.x_isinstance) bv_isinstance rfl (by decide) rfl (by decide) (SA.cons rfl (SE.loc 8 rfl rfl rfl) (SA.cons rfl (SE.ty 1 rfl (by exact G.x_str) bt_str (by decide) rfl) SA.nil))) rfl rfl)) (SW.or (ST.cmp .ne rfl (SE.loc 8 rfl rfl rfl) (SE.loc 6 rfl rfl rfl)) (SW.or (ST.cmp .ne rfl (SE.loc 7 rfl rfl rfl) (SE.tup (SA.cons rfl (SE.loc 2 rfl rfl rfl) (SA.cons rfl (SE.loc 4 rfl rfl rfl) SA.nil)))) (SW.or (ST.cmp .isnot rfl (SE.sub rfl (SE.loc 9 rfl rfl rfl) SE.int) (SE.bl true)) (SW.or1 (ST.nt (ST.v (SE.call 18 rfl (by exact G.x__law_same) rfl rfl (by decide) (SA.cons rfl (SE.sub rfl (SE.loc 9 rfl rfl rfl) SE.int) (SA.cons rfl (SE.tup (SA.cons rfl (SE.loc 2 rfl rfl rfl) (SA.cons rfl (SE.loc 4 rfl rfl rfl) SA.nil))) SA.nil))) rfl rfl)))))))) (SSs.cons (SS.ret (SE.bl false))
 SSs.nil) SSs.nil))
 (SSs.cons (SS.set 10 rfl rfl (fun _ _ => rfl) (SE.lst (SA.cons rfl (SE.str [] (by decide +kernel) (by decide)) (SA.cons rfl (SE.str [10] (by decide +kernel) (by decide)) (SA.cons rfl (SE.str [50, 32, 58, 32, 48] (by decide +kernel) (by decide)) (SA.cons rfl (SE.str [50, 32, 58, 32, 50] (by decide +kernel) (by decide)) (SA.cons rfl (SE.str [49, 32, 58, 32, 48] (by decide +kernel) (by decide)) (SA.cons rfl (SE.str [48, 32, 58, 32, 48] (by decide +kernel) (by decide)) (SA.cons rfl (SE.str [52, 49, 32, 58, 32, 49] (by decide +kernel) (by decide)) (SA.cons rfl (SE.str [52, 48, 32, 58, 32, 51, 57, 32, 51, 57, 32, 51, 57] (by decide +kernel) (by decide)) (SA.cons rfl (SE.str [52, 48, 32, 58, 32, 51, 57, 32, 51, 57, 32, 51, 57, 32, 51, 57] (by decide +kernel) (by decide)) (SA.cons rfl (SE.str [49, 48, 32, 58, 32, 49, 32, 50, 32, 51, 32, 52, 32, 53, 32, 54, 32, 55, 32, 56, 32, 57, 32, 48, 32, 49, 32, 50] (by decide +kernel) (by decide)) (SA.cons rfl (SE.str [57, 32, 58, 32, 49, 32, 50, 32, 51, 32, 52, 32, 53, 32, 54, 32, 55, 32, 56, 32, 48, 32, 49, 32, 50, 32, 51, 32, 52] (by decide +kernel) (by decide)) (SA.cons rfl (SE.str [50, 32, 58] (by decide +kernel) (by decide)) (SA.cons rfl (SE.str [50, 32, 49] (by decide +kernel) (by decide)) SA.nil)))))))))))))))
 (SSs.cons (SS.set 10 rfl rfl (fun _ _ => rfl) (SE.bin .add (SE.loc 10 rfl rfl rfl) (SE.lst (SA.cons rfl (SE.str [50, 58, 32, 49] (by decide +kernel) (by decide)) (SA.cons rfl (SE.str [50, 32, 58, 49] (by decide +kernel) (by decide)) (SA.cons rfl (SE.str [58, 32, 49] (by decide +kernel) (by decide)) (SA.cons rfl (SE.str [50, 32, 58, 32, 49, 32] (by decide +kernel) (by decide)) (SA.cons rfl (SE.str [32, 50, 32, 58, 32, 49] (by decide +kernel) (by decide)) (SA.cons rfl (SE.str [50, 32, 58, 32, 48, 49] (by decide +kernel) (by decide)) (SA.cons rfl (SE.str [48, 50, 32, 58, 32, 49] (by decide +kernel) (by decide)) (SA.cons rfl (SE.str [50, 32, 58, 32, 45, 49] (by decide +kernel) (by decide)) (SA.cons rfl (SE.str [50, 32, 58, 32, 58, 32, 49] (by decide +kernel) (by decide)) (SA.cons rfl (SE.str [50, 32, 58, 32, 49, 10, 50, 32, 58, 32, 49] (by decide +kernel) (by decide)) (SA.cons rfl (SE.str [53, 48, 32, 58, 32, 49, 10, 50, 32, 58, 32, 49] (by decide +kernel) (by decide)) (SA.cons rfl (SE.str [50, 32, 58, 32, 49, 10, 50] (by decide +kernel) (by decide)) (SA.cons rfl (SE.str [50, 32, 58, 32, 97] (by decide +kernel) (by decide)) (SA.cons rfl (SE.bin .add (SE.loc 6 rfl rfl rfl) (SE.str [10] (by decide +kernel) (by decide))) (SA.cons rfl (SE.bin .add (SE.bin .add (SE.loc 6 rfl rfl rfl) (SE.str [10] (by decide +kernel) (by decide))) (SE.loc 6 rfl rfl rfl)) SA.nil))))))))))))))))))
 (SSs.cons (SS.frz [2] (SS.for [11] (by decide) (fun _ _ => rfl) (SI.seq (SE.bin .add (SE.loc 10 rfl rfl rfl) (SE.lst (SA.cons rfl (SE.call 25 rfl (by exact G.x__law_text) rfl rfl (by decide) (SA.cons rfl (SE.tup (SA.cons rfl (SE.loc 2 rfl rfl rfl) (SA.cons rfl (SE.bin .add (SE.loc 4 rfl rfl rfl) (SE.lst (SA.cons rfl (SE.loc 2 rfl rfl rfl) SA.nil))) SA.nil))) SA.nil)) (SA.cons rfl (SE.call 25 rfl (by exact G.x__law_text) rfl rfl (by decide) (SA.cons rfl (SE.tup (SA.cons rfl (SE.loc 2 rfl rfl rfl) (SA.cons rfl (SE.bin .mul (SE.loc 4 rfl rfl rfl) SE.int) SA.nil))) SA.nil)) (SA.cons rfl (SE.call 25 rfl (by exact G.x__law_text) rfl rfl (by decide) (SA.cons rfl (SE.tup (SA.cons rfl (SE.bin .sub (SE.bin .pow SE.int SE.int) SE.int) (SA.cons rfl (SE.lst (SA.cons rfl (SE.bin .sub (SE.bin .pow SE.int SE.int) SE.int) SA.nil)) SA.nil))) SA.nil)) (SA.cons rfl (SE.call 25 rfl (by exact G.x__law_text) rfl rfl (by decide) (SA.cons rfl (SE.tup (SA.cons rfl (SE.loc 2 rfl rfl rfl) (SA.cons rfl (SE.bin .add (SE.loc 4 rfl rfl rfl) (SE.lst (SA.cons rfl (SE.bin .pow SE.int SE.int) SA.nil))) SA.nil))) SA.nil)) SA.nil))))))) (SG.v 11 rfl rfl) (SSs.cons (SS.frz [11] (SS.ifs (ST.nt (ST.v (SE.call 23 rfl (by exact G.x__law_read_right) rfl rfl (by decide) (SA.cons rfl SE.int (SA.cons rfl (SE.loc 11 rfl rfl rfl) SA.nil))) rfl rfl)) (SSs.cons (SS.ret (SE.bl false))
 SSs.nil) SSs.nil))
 SSs.nil)))
 (SSs.cons (SS.for [12, 13, 14] (by decide) (fun _ _ => rfl) (SI.rng1 rfl rfl (by exact G.x_range) rfl (SA.cons rfl SE.int SA.nil)) (SG.v 12 rfl rfl) (SSs.cons (SS.set 13 rfl rfl (fun _ _ => rfl) (SE.call 16 rfl (by exact G.x__law_numbers) rfl rfl (by decide) (SA.cons rfl (SE.loc 0 rfl rfl rfl) (SA.cons rfl (SE.bin .add SE.int (SE.loc 12 rfl rfl rfl)) (SA.cons rfl SE.int SA.nil)))))
 (SSs.cons (SS.frz [6, 13] (SS.set 14 rfl rfl (fun _ _ => rfl) (SE.call 24 rfl (by exact G.x__law_changed) rfl rfl (by decide) (SA.cons rfl (SE.loc 6 rfl rfl rfl) (SA.cons rfl (SE.loc 13 rfl rfl rfl) SA.nil)))))
 (SSs.cons (SS.frz [14] (SS.ifs (ST.w (SW.or (ST.nt (ST.v (SE.call 23 rfl (by exact G.x__law_read_right) rfl rfl (by decide) (SA.cons rfl SE.int (SA.cons rfl (SE.loc 14 rfl rfl rfl) SA.nil))) rfl rfl)) (SW.or1 (ST.nt (ST.v (SE.call 23 rfl (by exact G.x__law_read_right) rfl rfl (by decide) (SA.cons rfl SE.int (SA.cons rfl (SE.call 24 rfl (by exact G.x__law_changed) rfl rfl (by decide) (SA.cons rfl (SE.loc 14 rfl rfl rfl) (SA.cons rfl (SE.slc (SE.loc 13 rfl rfl rfl) (SP.some SE.int) SP.none) SA.nil))) SA.nil))) rfl rfl))))) (SSs.cons (SS.ret (SE.bl false))
 SSs.nil) SSs.nil))
 SSs.nil))))
 (SSs.cons (SS.ret (SE.bl true))
 SSs.nil))))))))))))))
end
theorem e0 (d : Nat) (p0 : PV) : callF P (d + 1) 0 [p0] = ofFl (execs ⟨callF P d, par, 4⟩ b0 [.sh p0, .un]) := rfl
theorem e1 (d : Nat) (p0 : PV) : callF P (d + 1) 1 [p0] = ofFl (execs ⟨callF P d, par, 4⟩ b1 [.sh p0]) := rfl
theorem e2 (d : Nat) (p0 : PV) : callF P (d + 1) 2 [p0] = ofFl (execs ⟨callF P d, par, 4⟩ b2 [.sh p0]) := rfl
theorem e3 (d : Nat) (p0 : PV) : callF P (d + 1) 3 [p0] = ofFl (execs ⟨callF P d, par, 4⟩ b3 [.sh p0, .un]) := rfl
theorem e4 (d : Nat) (p0 : PV) : callF P (d + 1) 4 [p0] = ofFl (execs ⟨callF P d, par, 4⟩ b4 [.sh p0]) := rfl
theorem e5 (d : Nat) (p0 : PV) : callF P (d + 1) 5 [p0] = ofFl (execs ⟨callF P d, par, 4⟩ b5 [.sh p0]) := rfl
theorem e6 (d : Nat) (p0 : PV) : callF P (d + 1) 6 [p0] = ofFl (execs ⟨callF P d, par, 4⟩ b6 [.sh p0, .un]) := rfl
theorem e7 (d : Nat) (p0 : PV) (p1 : PV) : callF P (d + 1) 7 [p0, p1] = ofFl (execs ⟨callF P d, par, 4⟩ b7 [.sh p0, .sh p1]) := rfl
theorem e8 (d : Nat) (p0 : PV) (p1 : PV) (p2 : PV) : callF P (d + 1) 8 [p0, p1, p2] = ofFl (execs ⟨callF P d, par, 4⟩ b8 [.sh p0, .sh p1, .sh p2, .un, .un]) := rfl
theorem e9 (d : Nat) (p0 : PV) (p1 : PV) : callF P (d + 1) 9 [p0, p1] = ofFl (execs ⟨callF P d, par, 4⟩ b9 [.sh p0, .sh p1]) := rfl
theorem e10 (d : Nat) (p0 : PV) (p1 : PV) : callF P (d + 1) 10 [p0, p1] = ofFl (execs ⟨callF P d, par, 4⟩ b10 [.sh p0, .sh p1, .un]) := rfl
theorem e11 (d : Nat) (p0 : PV) (p1 : PV) : callF P (d + 1) 11 [p0, p1] = ofFl (execs ⟨callF P d, par, 4⟩ b11 [.sh p0, .sh p1]) := rfl
theorem e12 (d : Nat) (p0 : PV) : callF P (d + 1) 12 [p0] = ofFl (execs ⟨callF P d, par, 4⟩ b12 [.sh p0, .un, .un]) := rfl
theorem e13 (d : Nat) (p0 : PV) : callF P (d + 1) 13 [p0] = ofFl (execs ⟨callF P d, par, 4⟩ b13 [.sh p0, .un, .un, .un, .un, .un]) := rfl
theorem e14 (d : Nat) (p0 : PV) (p1 : PV) : callF P (d + 1) 14 [p0, p1] = ofFl (execs ⟨callF P d, par, 4⟩ b14 [.sh p0, .sh p1, .un]) := rfl
theorem e15 (d : Nat) (p0 : PV) : callF P (d + 1) 15 [p0] = ofFl (execs ⟨callF P d, par, 4⟩ b15 [.sh p0, .un, .un]) := rfl
theorem e16 (d : Nat) (p0 : PV) (p1 : PV) (p2 : PV) : callF P (d + 1) 16 [p0, p1, p2] = ofFl (execs ⟨callF P d, par, 4⟩ b16 [.sh p0, .sh p1, .sh p2, .un, .un, .un, .un]) := rfl
theorem e17 (d : Nat) (p0 : PV) : callF P (d + 1) 17 [p0] = ofFl (execs ⟨callF P d, par, 4⟩ b17 [.sh p0]) := rfl
theorem e18 (d : Nat) (p0 : PV) (p1 : PV) : callF P (d + 1) 18 [p0, p1] = ofFl (execs ⟨callF P d, par, 4⟩ b18 [.sh p0, .sh p1, .un]) := rfl
theorem e19 (d : Nat) (p0 : PV) : callF P (d + 1) 19 [p0] = ofFl (execs ⟨callF P d, par, 4⟩ b19 [.sh p0, .un, .un, .un]) := rfl
theorem e20 (d : Nat) (p0 : PV) : callF P (d + 1) 20 [p0] = ofFl (execs ⟨callF P d, par, 4⟩ b20 [.sh p0, .un, .un]) := rfl
theorem e21 (d : Nat) (p0 : PV) (p1 : PV) : callF P (d + 1) 21 [p0, p1] = ofFl (execs ⟨callF P d, par, 4⟩ b21 [.sh p0, .sh p1, .un, .un, .un, .un, .un]) := rfl
theorem e22 (d : Nat) (p0 : PV) (p1 : PV) : callF P (d + 1) 22 [p0, p1] = ofFl (execs ⟨callF P d, par, 4⟩ b22 [.sh p0, .sh p1, .un]) := rfl
theorem e23 (d : Nat) (p0 : PV) (p1 : PV) : callF P (d + 1) 23 [p0, p1] = ofFl (execs ⟨callF P d, par, 4⟩ b23 [.sh p0, .sh p1, .un, .un]) := rfl
theorem e24 (d : Nat) (p0 : PV) (p1 : PV) : callF P (d + 1) 24 [p0, p1] = ofFl (execs ⟨callF P d, par, 4⟩ b24 [.sh p0, .sh p1, .un, .un, .un, .un, .un, .un, .un, .un]) := rfl
theorem e25 (d : Nat) (p0 : PV) : callF P (d + 1) 25 [p0] = ofFl (execs ⟨callF P d, par, 4⟩ b25 [.sh p0, .un]) := rfl
theorem e26 (d : Nat) (p0 : PV) : callF P (d + 1) 26 [p0] = ofFl (execs ⟨callF P d, par, 4⟩ b26 [.sh p0, .un, .un, .un, .un, .un, .un, .un, .un, .un, .un, .un, .un, .un, .un]) := rfl
set_option maxHeartbeats 8000000 in
theorem all_mk {Pr : Program} {w : World} {K : PySem.W.Frag} {h : Heap} {mg : Str → Option Value} {fa : Addr} (X : K.In h) (Gm : h.Ns mainGlobals mg) (hfa : mg "law" = some (.ref fa))
    {f0 : Addr} {oc0 kV0 dc0 pm0 cd0 ct0 : Value} {od0 an0 : Option Addr} {sl0 : Array (Option Value)}
    {f1 : Addr} {oc1 kV1 dc1 pm1 cd1 ct1 : Value} {od1 an1 : Option Addr} {sl1 : Array (Option Value)}
    {f2 : Addr} {oc2 kV2 dc2 pm2 cd2 ct2 : Value} {od2 an2 : Option Addr} {sl2 : Array (Option Value)}
    {f3 : Addr} {oc3 kV3 dc3 pm3 cd3 ct3 : Value} {od3 an3 : Option Addr} {sl3 : Array (Option Value)}
    {f4 : Addr} {oc4 kV4 dc4 pm4 cd4 ct4 : Value} {od4 an4 : Option Addr} {sl4 : Array (Option Value)}
    {f5 : Addr} {oc5 kV5 dc5 pm5 cd5 ct5 : Value} {od5 an5 : Option Addr} {sl5 : Array (Option Value)}
    {f6 : Addr} {oc6 kV6 dc6 pm6 cd6 ct6 : Value} {od6 an6 : Option Addr} {sl6 : Array (Option Value)}
    {f7 : Addr} {oc7 kV7 dc7 pm7 cd7 ct7 : Value} {od7 an7 : Option Addr} {sl7 : Array (Option Value)}
    {f8 : Addr} {oc8 kV8 dc8 pm8 cd8 ct8 : Value} {od8 an8 : Option Addr} {sl8 : Array (Option Value)}
    {f9 : Addr} {oc9 kV9 dc9 pm9 cd9 ct9 : Value} {od9 an9 : Option Addr} {sl9 : Array (Option Value)}
    {f10 : Addr} {oc10 kV10 dc10 pm10 cd10 ct10 : Value} {od10 an10 : Option Addr} {sl10 : Array (Option Value)}
    {f11 : Addr} {oc11 kV11 dc11 pm11 cd11 ct11 : Value} {od11 an11 : Option Addr} {sl11 : Array (Option Value)}
    {f12 : Addr} {oc12 kV12 dc12 pm12 cd12 ct12 : Value} {od12 an12 : Option Addr} {sl12 : Array (Option Value)}
    {f13 : Addr} {oc13 kV13 dc13 pm13 cd13 ct13 : Value} {od13 an13 : Option Addr} {sl13 : Array (Option Value)}
    {f14 : Addr} {oc14 kV14 dc14 pm14 cd14 ct14 : Value} {od14 an14 : Option Addr} {sl14 : Array (Option Value)}
    {f15 : Addr} {oc15 kV15 dc15 pm15 cd15 ct15 : Value} {od15 an15 : Option Addr} {sl15 : Array (Option Value)}
    {f16 : Addr} {oc16 kV16 dc16 pm16 cd16 ct16 : Value} {od16 an16 : Option Addr} {sl16 : Array (Option Value)}
    {f17 : Addr} {oc17 kV17 dc17 pm17 cd17 ct17 : Value} {od17 an17 : Option Addr} {sl17 : Array (Option Value)}
    {f18 : Addr} {oc18 kV18 dc18 pm18 cd18 ct18 : Value} {od18 an18 : Option Addr} {sl18 : Array (Option Value)}
    {f19 : Addr} {oc19 kV19 dc19 pm19 cd19 ct19 : Value} {od19 an19 : Option Addr} {sl19 : Array (Option Value)}
    {f20 : Addr} {oc20 kV20 dc20 pm20 cd20 ct20 : Value} {od20 an20 : Option Addr} {sl20 : Array (Option Value)}
    {f21 : Addr} {oc21 kV21 dc21 pm21 cd21 ct21 : Value} {od21 an21 : Option Addr} {sl21 : Array (Option Value)}
    {f22 : Addr} {oc22 kV22 dc22 pm22 cd22 ct22 : Value} {od22 an22 : Option Addr} {sl22 : Array (Option Value)}
    {f23 : Addr} {oc23 kV23 dc23 pm23 cd23 ct23 : Value} {od23 an23 : Option Addr} {sl23 : Array (Option Value)}
    {f24 : Addr} {oc24 kV24 dc24 pm24 cd24 ct24 : Value} {od24 an24 : Option Addr} {sl24 : Array (Option Value)}
    {f25 : Addr} {oc25 kV25 dc25 pm25 cd25 ct25 : Value} {od25 an25 : Option Addr} {sl25 : Array (Option Value)}
    {f26 : Addr} {oc26 kV26 dc26 pm26 cd26 ct26 : Value} {od26 an26 : Option Addr} {sl26 : Array (Option Value)}
    {C0 : Addr}
    {C1 : Addr}
    {C2 : Addr}
    {C3 : Addr}
    {nm3 q3 : Str} {N3 : Addr} {bs3 : List Value} {sn3 : List Str} {su3 : List Value} {ab3 : Bool} {co3 : Option Bool} {dd3 : Option Addr} {m03 m13 m23 m33 m53 : Option Value} {fI3 : Addr} {oi3 di3 pi3 ci3 ti3 : Value} {odi3 ani3 : Option Addr} {sli3 : Array (Option Value)}
    {t_MOST_FIGURES : Tok}
    {t_FIGURES : Tok}
    {t_COLON : Tok}
    {t_LEAST_MODULUS : Tok}
    {t_GREATEST_MODULUS : Tok}
    {t_MOST_WEIGHTS : Tok}
    {t_MOST_STATES : Tok}
    (a0 : PySem.W.nsIn K mainGlobals "has_figures" = some (some (.ref f0)))
    (l0 : K.lookup f0 = some ⟨oc0, od0, .func (PySem.W.fnOf "has_figures" "has_figures" (defArgs (top 3)) (defBody (top 3)) (defScope (top 3)) .none kV0 dc0 pm0 an0 cd0 ct0), sl0⟩)
    (c0 : PySem.W.codeIn K cd0 "has_figures" = true)
    (k0 : PySem.W.keepIn K (.ref f0) = true)
    (a1 : PySem.W.nsIn K mainGlobals "read_number" = some (some (.ref f1)))
    (l1 : K.lookup f1 = some ⟨oc1, od1, .func (PySem.W.fnOf "read_number" "read_number" (defArgs (top 4)) (defBody (top 4)) (defScope (top 4)) .none kV1 dc1 pm1 an1 cd1 ct1), sl1⟩)
    (c1 : PySem.W.codeIn K cd1 "read_number" = true)
    (k1 : PySem.W.keepIn K (.ref f1) = true)
    (a2 : PySem.W.nsIn K mainGlobals "all_or_none" = some (some (.ref f2)))
    (l2 : K.lookup f2 = some ⟨oc2, od2, .func (PySem.W.fnOf "all_or_none" "all_or_none" (defArgs (top 5)) (defBody (top 5)) (defScope (top 5)) .none kV2 dc2 pm2 an2 cd2 ct2), sl2⟩)
    (c2 : PySem.W.codeIn K cd2 "all_or_none" = true)
    (k2 : PySem.W.keepIn K (.ref f2) = true)
    (a3 : PySem.W.nsIn K mainGlobals "numbers_of" = some (some (.ref f3)))
    (l3 : K.lookup f3 = some ⟨oc3, od3, .func (PySem.W.fnOf "numbers_of" "numbers_of" (defArgs (top 6)) (defBody (top 6)) (defScope (top 6)) .none kV3 dc3 pm3 an3 cd3 ct3), sl3⟩)
    (c3 : PySem.W.codeIn K cd3 "numbers_of" = true)
    (k3 : PySem.W.keepIn K (.ref f3) = true)
    (a4 : PySem.W.nsIn K mainGlobals "lines_of" = some (some (.ref f4)))
    (l4 : K.lookup f4 = some ⟨oc4, od4, .func (PySem.W.fnOf "lines_of" "lines_of" (defArgs (top 7)) (defBody (top 7)) (defScope (top 7)) .none kV4 dc4 pm4 an4 cd4 ct4), sl4⟩)
    (c4 : PySem.W.codeIn K cd4 "lines_of" = true)
    (k4 : PySem.W.keepIn K (.ref f4) = true)
    (a5 : PySem.W.nsIn K mainGlobals "items_of" = some (some (.ref f5)))
    (l5 : K.lookup f5 = some ⟨oc5, od5, .func (PySem.W.fnOf "items_of" "items_of" (defArgs (top 8)) (defBody (top 8)) (defScope (top 8)) .none kV5 dc5 pm5 an5 cd5 ct5), sl5⟩)
    (c5 : PySem.W.codeIn K cd5 "items_of" = true)
    (k5 : PySem.W.keepIn K (.ref f5) = true)
    (a6 : PySem.W.nsIn K mainGlobals "spaced" = some (some (.ref f6)))
    (l6 : K.lookup f6 = some ⟨oc6, od6, .func (PySem.W.fnOf "spaced" "spaced" (defArgs (top 9)) (defBody (top 9)) (defScope (top 9)) .none kV6 dc6 pm6 an6 cd6 ct6), sl6⟩)
    (c6 : PySem.W.codeIn K cd6 "spaced" = true)
    (k6 : PySem.W.keepIn K (.ref f6) = true)
    (a7 : PySem.W.nsIn K mainGlobals "told_or_refused" = some (some (.ref f7)))
    (l7 : K.lookup f7 = some ⟨oc7, od7, .func (PySem.W.fnOf "told_or_refused" "told_or_refused" (defArgs (top 16)) (defBody (top 16)) (defScope (top 16)) .none kV7 dc7 pm7 an7 cd7 ct7), sl7⟩)
    (c7 : PySem.W.codeIn K cd7 "told_or_refused" = true)
    (k7 : PySem.W.keepIn K (.ref f7) = true)
    (a8 : PySem.W.nsIn K mainGlobals "read_from" = some (some (.ref f8)))
    (l8 : K.lookup f8 = some ⟨oc8, od8, .func (PySem.W.fnOf "read_from" "read_from" (defArgs (top 17)) (defBody (top 17)) (defScope (top 17)) .none kV8 dc8 pm8 an8 cd8 ct8), sl8⟩)
    (c8 : PySem.W.codeIn K cd8 "read_from" = true)
    (k8 : PySem.W.keepIn K (.ref f8) = true)
    (a9 : PySem.W.nsIn K mainGlobals "read_lines" = some (some (.ref f9)))
    (l9 : K.lookup f9 = some ⟨oc9, od9, .func (PySem.W.fnOf "read_lines" "read_lines" (defArgs (top 18)) (defBody (top 18)) (defScope (top 18)) .none kV9 dc9 pm9 an9 cd9 ct9), sl9⟩)
    (c9 : PySem.W.codeIn K cd9 "read_lines" = true)
    (k9 : PySem.W.keepIn K (.ref f9) = true)
    (a10 : PySem.W.nsIn K mainGlobals "read_only_line" = some (some (.ref f10)))
    (l10 : K.lookup f10 = some ⟨oc10, od10, .func (PySem.W.fnOf "read_only_line" "read_only_line" (defArgs (top 19)) (defBody (top 19)) (defScope (top 19)) .none kV10 dc10 pm10 an10 cd10 ct10), sl10⟩)
    (c10 : PySem.W.codeIn K cd10 "read_only_line" = true)
    (k10 : PySem.W.keepIn K (.ref f10) = true)
    (a11 : PySem.W.nsIn K mainGlobals "refuse_if" = some (some (.ref f11)))
    (l11 : K.lookup f11 = some ⟨oc11, od11, .func (PySem.W.fnOf "refuse_if" "refuse_if" (defArgs (top 20)) (defBody (top 20)) (defScope (top 20)) .none kV11 dc11 pm11 an11 cd11 ct11), sl11⟩)
    (c11 : PySem.W.codeIn K cd11 "refuse_if" = true)
    (k11 : PySem.W.keepIn K (.ref f11) = true)
    (a12 : PySem.W.nsIn K mainGlobals "show_weights" = some (some (.ref f12)))
    (l12 : K.lookup f12 = some ⟨oc12, od12, .func (PySem.W.fnOf "show_weights" "show_weights" (defArgs (top 27)) (defBody (top 27)) (defScope (top 27)) .none kV12 dc12 pm12 an12 cd12 ct12), sl12⟩)
    (c12 : PySem.W.codeIn K cd12 "show_weights" = true)
    (k12 : PySem.W.keepIn K (.ref f12) = true)
    (a13 : PySem.W.nsIn K mainGlobals "read_weights_line" = some (some (.ref f13)))
    (l13 : K.lookup f13 = some ⟨oc13, od13, .func (PySem.W.fnOf "read_weights_line" "read_weights_line" (defArgs (top 28)) (defBody (top 28)) (defScope (top 28)) .none kV13 dc13 pm13 an13 cd13 ct13), sl13⟩)
    (c13 : PySem.W.codeIn K cd13 "read_weights_line" = true)
    (k13 : PySem.W.keepIn K (.ref f13) = true)
    (a14 : PySem.W.nsIn K mainGlobals "are_weights" = some (some (.ref f14)))
    (l14 : K.lookup f14 = some ⟨oc14, od14, .func (PySem.W.fnOf "are_weights" "are_weights" (defArgs (top 29)) (defBody (top 29)) (defScope (top 29)) .none kV14 dc14 pm14 an14 cd14 ct14), sl14⟩)
    (c14 : PySem.W.codeIn K cd14 "are_weights" = true)
    (k14 : PySem.W.keepIn K (.ref f14) = true)
    (a15 : PySem.W.nsIn K mainGlobals "read_weights" = some (some (.ref f15)))
    (l15 : K.lookup f15 = some ⟨oc15, od15, .func (PySem.W.fnOf "read_weights" "read_weights" (defArgs (top 30)) (defBody (top 30)) (defScope (top 30)) .none kV15 dc15 pm15 an15 cd15 ct15), sl15⟩)
    (c15 : PySem.W.codeIn K cd15 "read_weights" = true)
    (k15 : PySem.W.keepIn K (.ref f15) = true)
    (a16 : PySem.W.nsIn K mainGlobals "_law_numbers" = some (some (.ref f16)))
    (l16 : K.lookup f16 = some ⟨oc16, od16, .func (PySem.W.fnOf "_law_numbers" "_law_numbers" (defArgs (top 32)) (defBody (top 32)) (defScope (top 32)) .none kV16 dc16 pm16 an16 cd16 ct16), sl16⟩)
    (c16 : PySem.W.codeIn K cd16 "_law_numbers" = true)
    (k16 : PySem.W.keepIn K (.ref f16) = true)
    (a17 : PySem.W.nsIn K mainGlobals "_law_is_integer" = some (some (.ref f17)))
    (l17 : K.lookup f17 = some ⟨oc17, od17, .func (PySem.W.fnOf "_law_is_integer" "_law_is_integer" (defArgs (top 33)) (defBody (top 33)) (defScope (top 33)) .none kV17 dc17 pm17 an17 cd17 ct17), sl17⟩)
    (c17 : PySem.W.codeIn K cd17 "_law_is_integer" = true)
    (k17 : PySem.W.keepIn K (.ref f17) = true)
    (a18 : PySem.W.nsIn K mainGlobals "_law_same" = some (some (.ref f18)))
    (l18 : K.lookup f18 = some ⟨oc18, od18, .func (PySem.W.fnOf "_law_same" "_law_same" (defArgs (top 34)) (defBody (top 34)) (defScope (top 34)) .none kV18 dc18 pm18 an18 cd18 ct18), sl18⟩)
    (c18 : PySem.W.codeIn K cd18 "_law_same" = true)
    (k18 : PySem.W.keepIn K (.ref f18) = true)
    (a19 : PySem.W.nsIn K mainGlobals "_law_numbers_of" = some (some (.ref f19)))
    (l19 : K.lookup f19 = some ⟨oc19, od19, .func (PySem.W.fnOf "_law_numbers_of" "_law_numbers_of" (defArgs (top 35)) (defBody (top 35)) (defScope (top 35)) .none kV19 dc19 pm19 an19 cd19 ct19), sl19⟩)
    (c19 : PySem.W.codeIn K cd19 "_law_numbers_of" = true)
    (k19 : PySem.W.keepIn K (.ref f19) = true)
    (a20 : PySem.W.nsIn K mainGlobals "_law_line" = some (some (.ref f20)))
    (l20 : K.lookup f20 = some ⟨oc20, od20, .func (PySem.W.fnOf "_law_line" "_law_line" (defArgs (top 36)) (defBody (top 36)) (defScope (top 36)) .none kV20 dc20 pm20 an20 cd20 ct20), sl20⟩)
    (c20 : PySem.W.codeIn K cd20 "_law_line" = true)
    (k20 : PySem.W.keepIn K (.ref f20) = true)
    (a21 : PySem.W.nsIn K mainGlobals "_law_due" = some (some (.ref f21)))
    (l21 : K.lookup f21 = some ⟨oc21, od21, .func (PySem.W.fnOf "_law_due" "_law_due" (defArgs (top 37)) (defBody (top 37)) (defScope (top 37)) .none kV21 dc21 pm21 an21 cd21 ct21), sl21⟩)
    (c21 : PySem.W.codeIn K cd21 "_law_due" = true)
    (k21 : PySem.W.keepIn K (.ref f21) = true)
    (a22 : PySem.W.nsIn K mainGlobals "_law_told" = some (some (.ref f22)))
    (l22 : K.lookup f22 = some ⟨oc22, od22, .func (PySem.W.fnOf "_law_told" "_law_told" (defArgs (top 38)) (defBody (top 38)) (defScope (top 38)) .none kV22 dc22 pm22 an22 cd22 ct22), sl22⟩)
    (c22 : PySem.W.codeIn K cd22 "_law_told" = true)
    (k22 : PySem.W.keepIn K (.ref f22) = true)
    (a23 : PySem.W.nsIn K mainGlobals "_law_read_right" = some (some (.ref f23)))
    (l23 : K.lookup f23 = some ⟨oc23, od23, .func (PySem.W.fnOf "_law_read_right" "_law_read_right" (defArgs (top 39)) (defBody (top 39)) (defScope (top 39)) .none kV23 dc23 pm23 an23 cd23 ct23), sl23⟩)
    (c23 : PySem.W.codeIn K cd23 "_law_read_right" = true)
    (k23 : PySem.W.keepIn K (.ref f23) = true)
    (a24 : PySem.W.nsIn K mainGlobals "_law_changed" = some (some (.ref f24)))
    (l24 : K.lookup f24 = some ⟨oc24, od24, .func (PySem.W.fnOf "_law_changed" "_law_changed" (defArgs (top 40)) (defBody (top 40)) (defScope (top 40)) .none kV24 dc24 pm24 an24 cd24 ct24), sl24⟩)
    (c24 : PySem.W.codeIn K cd24 "_law_changed" = true)
    (k24 : PySem.W.keepIn K (.ref f24) = true)
    (a25 : PySem.W.nsIn K mainGlobals "_law_text" = some (some (.ref f25)))
    (l25 : K.lookup f25 = some ⟨oc25, od25, .func (PySem.W.fnOf "_law_text" "_law_text" (defArgs (top 41)) (defBody (top 41)) (defScope (top 41)) .none kV25 dc25 pm25 an25 cd25 ct25), sl25⟩)
    (c25 : PySem.W.codeIn K cd25 "_law_text" = true)
    (k25 : PySem.W.keepIn K (.ref f25) = true)
    (a26 : PySem.W.nsIn K mainGlobals "law" = some (some (.ref f26)))
    (l26 : K.lookup f26 = some ⟨oc26, od26, .func (PySem.W.fnOf "law" "law" (defArgs (top 42)) (defBody (top 42)) (defScope (top 42)) .none kV26 dc26 pm26 an26 cd26 ct26), sl26⟩)
    (c26 : PySem.W.codeIn K cd26 "law" = true)
    (k26 : PySem.W.keepIn K (.ref f26) = true)
    (ac0 : PySem.W.nsIn K mainGlobals "SlipError" = some (some (.ref C0)))
    (eC0 : PySem.W.subIn K (.ref C0) (.type "BaseException") = some true)
    (tC0 : PySem.W.typeIn K (.ref C0) = some (.type "type"))
    (hC0 : PySem.W.hasDictIn K C0 = true)
    (ga0 : PySem.W.findIn K (.ref C0) "__getattribute__" = some (some (.builtin "BaseException.__getattribute__")))
    (gg0 : PySem.W.findIn K (.ref C0) "__getattr__" = some none)
    (gc0 : PySem.W.findIn K (.ref C0) "__class__" = some (some (.builtin "object.__class__")))
    (mo0 : PySem.W.mroIn K C0 (.type "object") = some true)
    (ac1 : PySem.W.nsIn K mainGlobals "BadScheme" = some (some (.ref C1)))
    (eC1 : PySem.W.subIn K (.ref C1) (.type "BaseException") = some true)
    (tC1 : PySem.W.typeIn K (.ref C1) = some (.type "type"))
    (hC1 : PySem.W.hasDictIn K C1 = true)
    (ga1 : PySem.W.findIn K (.ref C1) "__getattribute__" = some (some (.builtin "BaseException.__getattribute__")))
    (gg1 : PySem.W.findIn K (.ref C1) "__getattr__" = some none)
    (gc1 : PySem.W.findIn K (.ref C1) "__class__" = some (some (.builtin "object.__class__")))
    (mo1 : PySem.W.mroIn K C1 (.type "object") = some true)
    (ac2 : PySem.W.nsIn K mainGlobals "BadNumbers" = some (some (.ref C2)))
    (eC2 : PySem.W.subIn K (.ref C2) (.type "BaseException") = some true)
    (tC2 : PySem.W.typeIn K (.ref C2) = some (.type "type"))
    (hC2 : PySem.W.hasDictIn K C2 = true)
    (ga2 : PySem.W.findIn K (.ref C2) "__getattribute__" = some (some (.builtin "BaseException.__getattribute__")))
    (gg2 : PySem.W.findIn K (.ref C2) "__getattr__" = some none)
    (gc2 : PySem.W.findIn K (.ref C2) "__class__" = some (some (.builtin "object.__class__")))
    (mo2 : PySem.W.mroIn K C2 (.type "object") = some true)
    (ac3 : PySem.W.nsIn K mainGlobals "BadLine" = some (some (.ref C3)))
    (eC3 : PySem.W.subIn K (.ref C3) (.type "BaseException") = some true)
    (tC3 : PySem.W.typeIn K (.ref C3) = some (.type "type"))
    (hC3 : PySem.W.hasDictIn K C3 = true)
    (ga3 : PySem.W.findIn K (.ref C3) "__getattribute__" = some (some (.builtin "BaseException.__getattribute__")))
    (gg3 : PySem.W.findIn K (.ref C3) "__getattr__" = some none)
    (gc3 : PySem.W.findIn K (.ref C3) "__class__" = some (some (.builtin "object.__class__")))
    (mo3 : PySem.W.mroIn K C3 (.type "object") = some true)
    (sg : PySem.W.specialIn K (.builtin "object.__class__") "__get__" = some (some (.builtin "getset_descriptor.__get__")))
    (tk : PySem.W.takesIn K (.builtin "object.__class__") = some true)
    (sb0_0 : PySem.W.subIn K (.ref C0) (.ref C0) = some true)
    (sb0_1 : PySem.W.subIn K (.ref C0) (.ref C1) = some false)
    (sb0_2 : PySem.W.subIn K (.ref C0) (.ref C2) = some false)
    (sb0_3 : PySem.W.subIn K (.ref C0) (.ref C3) = some false)
    (sb1_0 : PySem.W.subIn K (.ref C1) (.ref C0) = some true)
    (sb1_1 : PySem.W.subIn K (.ref C1) (.ref C1) = some true)
    (sb1_2 : PySem.W.subIn K (.ref C1) (.ref C2) = some false)
    (sb1_3 : PySem.W.subIn K (.ref C1) (.ref C3) = some false)
    (sb2_0 : PySem.W.subIn K (.ref C2) (.ref C0) = some true)
    (sb2_1 : PySem.W.subIn K (.ref C2) (.ref C1) = some false)
    (sb2_2 : PySem.W.subIn K (.ref C2) (.ref C2) = some true)
    (sb2_3 : PySem.W.subIn K (.ref C2) (.ref C3) = some false)
    (sb3_0 : PySem.W.subIn K (.ref C3) (.ref C0) = some true)
    (sb3_1 : PySem.W.subIn K (.ref C3) (.ref C1) = some false)
    (sb3_2 : PySem.W.subIn K (.ref C3) (.ref C2) = some false)
    (sb3_3 : PySem.W.subIn K (.ref C3) (.ref C3) = some true)
    (xL3 : K.lookup C3 = some (excClassObj nm3 q3 C3 N3 bs3 [.ref C0, .type "ValueError", .type "Exception", .type "BaseException", .type "object"] true sn3 su3 ab3 co3 dd3 m03 m13 m23 m33 m53 "ValueError.__new__"))
    (sa3 : PySem.W.findIn K (.ref C3) "__setattr__" = some (some (.builtin "object.__setattr__")))
    (nb3 : PySem.W.findIn K (.ref C3) "line" = some none)
    (in3 : PySem.W.findIn K (.ref C3) "__init__" = some (some (.ref fI3)))
    (tI3 : PySem.W.typeIn K (.ref fI3) = some (.type "function"))
    (lI3 : K.lookup fI3 = some ⟨oi3, odi3, .func (PySem.W.fnOf "__init__" "BadLine.__init__" (PySem.OneX.iA "line" ⟨35, 17, 35, 21⟩ ⟨35, 23, 35, 27⟩) (PySem.OneX.iB "line" ⟨36, 8, 36, 12⟩ ⟨36, 8, 36, 17⟩ ⟨36, 20, 36, 24⟩ ⟨36, 8, 36, 24⟩) (PySem.OneX.iS "line") .none .none di3 pi3 ani3 ci3 ti3), sli3⟩)
    (cI3 : PySem.W.codeIn K ci3 "BadLine.__init__" = true)
    (kC3 : PySem.W.keepIn K (.ref C3) = true)
    (z_len : PySem.W.nsIn K mainGlobals "len" = some none)
    (z_MOST_FIGURES : PySem.W.nsIn K mainGlobals "MOST_FIGURES" = some (some (.int 18 t_MOST_FIGURES)))
    (z_FIGURES : PySem.W.nsIn K mainGlobals "FIGURES" = some (some (.str ⟨List.toArray [48, 49, 50, 51, 52, 53, 54, 55, 56, 57]⟩ t_FIGURES)))
    (z_all : PySem.W.nsIn K mainGlobals "all" = some none)
    (z_int : PySem.W.nsIn K mainGlobals "int" = some none)
    (z_str : PySem.W.nsIn K mainGlobals "str" = some none)
    (z_enumerate : PySem.W.nsIn K mainGlobals "enumerate" = some none)
    (z_COLON : PySem.W.nsIn K mainGlobals "COLON" = some (some (.str ⟨List.toArray [58]⟩ t_COLON)))
    (z_LEAST_MODULUS : PySem.W.nsIn K mainGlobals "LEAST_MODULUS" = some (some (.int 2 t_LEAST_MODULUS)))
    (z_GREATEST_MODULUS : PySem.W.nsIn K mainGlobals "GREATEST_MODULUS" = some (some (.int 40 t_GREATEST_MODULUS)))
    (z_MOST_WEIGHTS : PySem.W.nsIn K mainGlobals "MOST_WEIGHTS" = some (some (.int 12 t_MOST_WEIGHTS)))
    (z_MOST_STATES : PySem.W.nsIn K mainGlobals "MOST_STATES" = some (some (.int 120 t_MOST_STATES)))
    (z_range : PySem.W.nsIn K mainGlobals "range" = some none)
    (z_isinstance : PySem.W.nsIn K mainGlobals "isinstance" = some none)
    (z_bool : PySem.W.nsIn K mainGlobals "bool" = some none)
    (z_tuple : PySem.W.nsIn K mainGlobals "tuple" = some none)
    (z_list : PySem.W.nsIn K mainGlobals "list" = some none)
    (z_min : PySem.W.nsIn K mainGlobals "min" = some none) :
    ∃ (g : Gh) (fd : FuncData), g.K = K ∧ (∀ (s : Shared) (u : Value), BindsTo s fd ⟨[u], []⟩ [(("script" : Str), u)]) ∧ ∀ base : Heap, K.In base → base.Ns mainGlobals mg → FnOk Pr w K mg base (L2.CX Pr w) 100 fa fd ["script"] (spF g (callF P 100 26)) := by
  have e := hfa.symm.trans (PySem.W.mg_of X Gm a26)
  have hfe : f26 = fa := (Value.ref.inj (Option.some.inj e)).symm
  subst hfe
  let g : Gh := ⟨K, fun i => [f0, f1, f2, f3, f4, f5, f6, f7, f8, f9, f10, f11, f12, f13, f14, f15, f16, f17, f18, f19, f20, f21, f22, f23, f24, f25, f26].getD i f0, fun i => [C0, C1, C2, C3].getD i C0, fun i => (["", "index", "index", "line"] : List Str).getD i ""⟩
  have E0 : ExcC K C0 := ⟨ga0, gg0, eC0, hC0, gc0, sg, tk, mo0⟩
  have E1 : ExcC K C1 := ⟨ga1, gg1, eC1, hC1, gc1, sg, tk, mo1⟩
  have E2 : ExcC K C2 := ⟨ga2, gg2, eC2, hC2, gc2, sg, tk, mo2⟩
  have E3 : ExcC K C3 := ⟨ga3, gg3, eC3, hC3, gc3, sg, tk, mo3⟩
  have X0 : ∀ d N, XT (sgOf g mg P d N) := fun d N => {
    kit := fun a b ha hb => by
      have ha : a < 4 := ha
      have hb : b < 4 := hb
      match a, b, ha, hb with
      | 0, 0, _, _ => exact kit_of hC0 tC0 sb0_0 sb0_0
      | 0, 1, _, _ => exact kit_of hC1 tC1 sb1_1 sb0_1
      | 0, 2, _, _ => exact kit_of hC2 tC2 sb2_2 sb0_2
      | 0, 3, _, _ => exact kit_of hC3 tC3 sb3_3 sb0_3
      | 1, 0, _, _ => exact kit_of hC0 tC0 sb0_0 sb1_0
      | 1, 1, _, _ => exact kit_of hC1 tC1 sb1_1 sb1_1
      | 1, 2, _, _ => exact kit_of hC2 tC2 sb2_2 sb1_2
      | 1, 3, _, _ => exact kit_of hC3 tC3 sb3_3 sb1_3
      | 2, 0, _, _ => exact kit_of hC0 tC0 sb0_0 sb2_0
      | 2, 1, _, _ => exact kit_of hC1 tC1 sb1_1 sb2_1
      | 2, 2, _, _ => exact kit_of hC2 tC2 sb2_2 sb2_2
      | 2, 3, _, _ => exact kit_of hC3 tC3 sb3_3 sb2_3
      | 3, 0, _, _ => exact kit_of hC0 tC0 sb0_0 sb3_0
      | 3, 1, _, _ => exact kit_of hC1 tC1 sb1_1 sb3_1
      | 3, 2, _, _ => exact kit_of hC2 tC2 sb2_2 sb3_2
      | 3, 3, _, _ => exact kit_of hC3 tC3 sb3_3 sb3_3
    exm := fun a b ha hb => by
      have ha : a < 4 := ha
      have hb : b < 4 := hb
      match a, b, ha, hb with
      | 0, 0, _, _ => exact exm_of eC0 hC0 tC0 sb0_0
      | 0, 1, _, _ => exact exm_of eC1 hC1 tC1 sb0_1
      | 0, 2, _, _ => exact exm_of eC2 hC2 tC2 sb0_2
      | 0, 3, _, _ => exact exm_of eC3 hC3 tC3 sb0_3
      | 1, 0, _, _ => exact exm_of eC0 hC0 tC0 sb1_0
      | 1, 1, _, _ => exact exm_of eC1 hC1 tC1 sb1_1
      | 1, 2, _, _ => exact exm_of eC2 hC2 tC2 sb1_2
      | 1, 3, _, _ => exact exm_of eC3 hC3 tC3 sb1_3
      | 2, 0, _, _ => exact exm_of eC0 hC0 tC0 sb2_0
      | 2, 1, _, _ => exact exm_of eC1 hC1 tC1 sb2_1
      | 2, 2, _, _ => exact exm_of eC2 hC2 tC2 sb2_2
      | 2, 3, _, _ => exact exm_of eC3 hC3 tC3 sb2_3
      | 3, 0, _, _ => exact exm_of eC0 hC0 tC0 sb3_0
      | 3, 1, _, _ => exact exm_of eC1 hC1 tC1 sb3_1
      | 3, 2, _, _ => exact exm_of eC2 hC2 tC2 sb3_2
      | 3, 3, _, _ => exact exm_of eC3 hC3 tC3 sb3_3
    exc := fun a ha => by
      have ha : a < 4 := ha
      match a, ha with
      | 0, _ => exact E0
      | 1, _ => exact E1
      | 2, _ => exact E2
      | 3, _ => exact E3
  }
  have T3 : PySem.OneX.LowTxt "BadLine" "line" "BadLine.__init__" K mg C3 fI3 := { nS := by decide, nD := by decide, kS := rfl, kF := rfl, bd := fun _ _ _ _ _ _ _ _ _ _ _ _ _ => rfl, gC := PySem.W.mg_of X Gm ac3, cls := ⟨nm3, q3, N3, bs3, _, sn3, su3, ab3, co3, dd3, m03, m13, m23, m33, m53, xL3, rfl⟩, sa := sa3, ga := ga3, gg := gg3, noN := nb3, iC := in3, tC := tI3, kC := kC3, exC := eC3, tyC := tC3, hdC := hC3, te := exm_of eC3 hC3 tC3 sb3_3, fn := ⟨_, _, _, _, _, _, _, _, _, _, _, _, _, _, lI3, cI3⟩ }
  have G : Gs g mg := {
    x_len := PySem.W.mg_none_of X Gm z_len
    x_MOST_FIGURES := ⟨t_MOST_FIGURES, PySem.W.mg_of X Gm z_MOST_FIGURES⟩
    x_FIGURES := ⟨t_FIGURES, PySem.W.mg_of X Gm z_FIGURES⟩
    x_all := PySem.W.mg_none_of X Gm z_all
    x_has_figures := PySem.W.mg_of X Gm a0
    x_int := PySem.W.mg_none_of X Gm z_int
    x_read_number := PySem.W.mg_of X Gm a1
    x_all_or_none := PySem.W.mg_of X Gm a2
    x_str := PySem.W.mg_none_of X Gm z_str
    x_BadLine := PySem.W.mg_of X Gm ac3
    x_enumerate := PySem.W.mg_none_of X Gm z_enumerate
    x_told_or_refused := PySem.W.mg_of X Gm a7
    x_lines_of := PySem.W.mg_of X Gm a4
    x_read_from := PySem.W.mg_of X Gm a8
    x_read_lines := PySem.W.mg_of X Gm a9
    x_COLON := ⟨t_COLON, PySem.W.mg_of X Gm z_COLON⟩
    x_spaced := PySem.W.mg_of X Gm a6
    x_items_of := PySem.W.mg_of X Gm a5
    x_numbers_of := PySem.W.mg_of X Gm a3
    x_LEAST_MODULUS := ⟨t_LEAST_MODULUS, PySem.W.mg_of X Gm z_LEAST_MODULUS⟩
    x_GREATEST_MODULUS := ⟨t_GREATEST_MODULUS, PySem.W.mg_of X Gm z_GREATEST_MODULUS⟩
    x_MOST_WEIGHTS := ⟨t_MOST_WEIGHTS, PySem.W.mg_of X Gm z_MOST_WEIGHTS⟩
    x_MOST_STATES := ⟨t_MOST_STATES, PySem.W.mg_of X Gm z_MOST_STATES⟩
    x_read_weights_line := PySem.W.mg_of X Gm a13
    x_read_only_line := PySem.W.mg_of X Gm a10
    x_are_weights := PySem.W.mg_of X Gm a14
    x_refuse_if := PySem.W.mg_of X Gm a11
    x_range := PySem.W.mg_none_of X Gm z_range
    x_isinstance := PySem.W.mg_none_of X Gm z_isinstance
    x_bool := PySem.W.mg_none_of X Gm z_bool
    x_tuple := PySem.W.mg_none_of X Gm z_tuple
    x_list := PySem.W.mg_none_of X Gm z_list
    x__law_same := PySem.W.mg_of X Gm a18
    x__law_is_integer := PySem.W.mg_of X Gm a17
    x__law_numbers_of := PySem.W.mg_of X Gm a19
    x__law_line := PySem.W.mg_of X Gm a20
    x_read_weights := PySem.W.mg_of X Gm a15
    x_SlipError := PySem.W.mg_of X Gm ac0
    x_BadScheme := PySem.W.mg_of X Gm ac1
    x_BadNumbers := PySem.W.mg_of X Gm ac2
    x__law_due := PySem.W.mg_of X Gm a21
    x__law_told := PySem.W.mg_of X Gm a22
    x__law_numbers := PySem.W.mg_of X Gm a16
    x_min := PySem.W.mg_none_of X Gm z_min
    x__law_text := PySem.W.mg_of X Gm a25
    x_show_weights := PySem.W.mg_of X Gm a12
    x__law_read_right := PySem.W.mg_of X Gm a23
    x__law_changed := PySem.W.mg_of X Gm a24
  }
  let ds : List Df := [⟨top 3, "has_figures", "has_figures", ["text", "sign"], ["text"]⟩, ⟨top 4, "read_number", "read_number", ["text"], ["text"]⟩, ⟨top 5, "all_or_none", "all_or_none", ["values"], ["values"]⟩, ⟨top 6, "numbers_of", "numbers_of", ["items", "item"], ["items"]⟩, ⟨top 7, "lines_of", "lines_of", ["text"], ["text"]⟩, ⟨top 8, "items_of", "items_of", ["line"], ["line"]⟩, ⟨top 9, "spaced", "spaced", ["values", "value"], ["values"]⟩, ⟨top 16, "told_or_refused", "told_or_refused", ["value", "index"], ["value", "index"]⟩, ⟨top 17, "read_from", "read_from", ["lines", "first", "read_line", "index", "line"], ["lines", "first", "read_line"]⟩, ⟨top 18, "read_lines", "read_lines", ["text", "read_line"], ["text", "read_line"]⟩, ⟨top 19, "read_only_line", "read_only_line", ["text", "read_line", "told"], ["text", "read_line"]⟩, ⟨top 20, "refuse_if", "refuse_if", ["is_wrong", "index"], ["is_wrong", "index"]⟩, ⟨top 27, "show_weights", "show_weights", ["weights", "modulus", "listed"], ["weights"]⟩, ⟨top 28, "read_weights_line", "read_weights_line", ["line", "first", "second", "rest", "modulus", "listed"], ["line"]⟩, ⟨top 29, "are_weights", "are_weights", ["modulus", "listed", "weight"], ["modulus", "listed"]⟩, ⟨top 30, "read_weights", "read_weights", ["text", "modulus", "listed"], ["text"]⟩, ⟨top 32, "_law_numbers", "_law_numbers", ["script", "at", "count", "cell", "numbers", "k", "mixed"], ["script", "at", "count"]⟩, ⟨top 33, "_law_is_integer", "_law_is_integer", ["value"], ["value"]⟩, ⟨top 34, "_law_same", "_law_same", ["actual", "due", "k"], ["actual", "due"]⟩, ⟨top 35, "_law_numbers_of", "_law_numbers_of", ["items", "found", "item", "sign"], ["items"]⟩, ⟨top 36, "_law_line", "_law_line", ["line", "items", "numbers"], ["line"]⟩, ⟨top 37, "_law_due", "_law_due", ["which", "text", "lines", "at", "modulus", "listed", "weight"], ["which", "text"]⟩, ⟨top 38, "_law_told", "_law_told", ["which", "text", "e"], ["which", "text"]⟩, ⟨top 39, "_law_read_right", "_law_read_right", ["which", "text", "due", "actual"], ["which", "text"]⟩, ⟨top 40, "_law_changed", "_law_changed", ["text", "numbers", "at", "sign", "lines", "line", "other", "way", "words", "found"], ["text", "numbers"]⟩, ⟨top 41, "_law_text", "_law_text", ["weights", "weight"], ["weights"]⟩, ⟨top 42, "law", "law", ["script", "sizes", "modulus", "most", "listed", "k", "text", "handed", "shown", "told", "texts", "other", "turn", "numbers", "changed"], ["script"]⟩]
  have F0 := fun_mk (st := top 3) l0 c0 k0
  have B0 := F0.binds (ps := ["text"]) fun _ _ _ _ _ _ us hl => match us, hl with | [_], _ => rfl
  have S0 : FnScope ["text", "sign"] ["text"] (defScope (top 3)) := ⟨rfl, rfl, rfl, by decide +kernel, rfl, by decide +kernel, by decide +kernel⟩
  have F1 := fun_mk (st := top 4) l1 c1 k1
  have B1 := F1.binds (ps := ["text"]) fun _ _ _ _ _ _ us hl => match us, hl with | [_], _ => rfl
  have S1 : FnScope ["text"] ["text"] (defScope (top 4)) := ⟨rfl, rfl, rfl, by decide +kernel, rfl, by decide +kernel, by decide +kernel⟩
  have F2 := fun_mk (st := top 5) l2 c2 k2
  have B2 := F2.binds (ps := ["values"]) fun _ _ _ _ _ _ us hl => match us, hl with | [_], _ => rfl
  have S2 : FnScope ["values"] ["values"] (defScope (top 5)) := ⟨rfl, rfl, rfl, by decide +kernel, rfl, by decide +kernel, by decide +kernel⟩
  have F3 := fun_mk (st := top 6) l3 c3 k3
  have B3 := F3.binds (ps := ["items"]) fun _ _ _ _ _ _ us hl => match us, hl with | [_], _ => rfl
  have S3 : FnScope ["items", "item"] ["items"] (defScope (top 6)) := ⟨rfl, rfl, rfl, by decide +kernel, rfl, by decide +kernel, by decide +kernel⟩
  have F4 := fun_mk (st := top 7) l4 c4 k4
  have B4 := F4.binds (ps := ["text"]) fun _ _ _ _ _ _ us hl => match us, hl with | [_], _ => rfl
  have S4 : FnScope ["text"] ["text"] (defScope (top 7)) := ⟨rfl, rfl, rfl, by decide +kernel, rfl, by decide +kernel, by decide +kernel⟩
  have F5 := fun_mk (st := top 8) l5 c5 k5
  have B5 := F5.binds (ps := ["line"]) fun _ _ _ _ _ _ us hl => match us, hl with | [_], _ => rfl
  have S5 : FnScope ["line"] ["line"] (defScope (top 8)) := ⟨rfl, rfl, rfl, by decide +kernel, rfl, by decide +kernel, by decide +kernel⟩
  have F6 := fun_mk (st := top 9) l6 c6 k6
  have B6 := F6.binds (ps := ["values"]) fun _ _ _ _ _ _ us hl => match us, hl with | [_], _ => rfl
  have S6 : FnScope ["values", "value"] ["values"] (defScope (top 9)) := ⟨rfl, rfl, rfl, by decide +kernel, rfl, by decide +kernel, by decide +kernel⟩
  have F7 := fun_mk (st := top 16) l7 c7 k7
  have B7 := F7.binds (ps := ["value", "index"]) fun _ _ _ _ _ _ us hl => match us, hl with | [_, _], _ => rfl
  have S7 : FnScope ["value", "index"] ["value", "index"] (defScope (top 16)) := ⟨rfl, rfl, rfl, by decide +kernel, rfl, by decide +kernel, by decide +kernel⟩
  have F8 := fun_mk (st := top 17) l8 c8 k8
  have B8 := F8.binds (ps := ["lines", "first", "read_line"]) fun _ _ _ _ _ _ us hl => match us, hl with | [_, _, _], _ => rfl
  have S8 : FnScope ["lines", "first", "read_line", "index", "line"] ["lines", "first", "read_line"] (defScope (top 17)) := ⟨rfl, rfl, rfl, by decide +kernel, rfl, by decide +kernel, by decide +kernel⟩
  have F9 := fun_mk (st := top 18) l9 c9 k9
  have B9 := F9.binds (ps := ["text", "read_line"]) fun _ _ _ _ _ _ us hl => match us, hl with | [_, _], _ => rfl
  have S9 : FnScope ["text", "read_line"] ["text", "read_line"] (defScope (top 18)) := ⟨rfl, rfl, rfl, by decide +kernel, rfl, by decide +kernel, by decide +kernel⟩
  have F10 := fun_mk (st := top 19) l10 c10 k10
  have B10 := F10.binds (ps := ["text", "read_line"]) fun _ _ _ _ _ _ us hl => match us, hl with | [_, _], _ => rfl
  have S10 : FnScope ["text", "read_line", "told"] ["text", "read_line"] (defScope (top 19)) := ⟨rfl, rfl, rfl, by decide +kernel, rfl, by decide +kernel, by decide +kernel⟩
  have F11 := fun_mk (st := top 20) l11 c11 k11
  have B11 := F11.binds (ps := ["is_wrong", "index"]) fun _ _ _ _ _ _ us hl => match us, hl with | [_, _], _ => rfl
  have S11 : FnScope ["is_wrong", "index"] ["is_wrong", "index"] (defScope (top 20)) := ⟨rfl, rfl, rfl, by decide +kernel, rfl, by decide +kernel, by decide +kernel⟩
  have F12 := fun_mk (st := top 27) l12 c12 k12
  have B12 := F12.binds (ps := ["weights"]) fun _ _ _ _ _ _ us hl => match us, hl with | [_], _ => rfl
  have S12 : FnScope ["weights", "modulus", "listed"] ["weights"] (defScope (top 27)) := ⟨rfl, rfl, rfl, by decide +kernel, rfl, by decide +kernel, by decide +kernel⟩
  have F13 := fun_mk (st := top 28) l13 c13 k13
  have B13 := F13.binds (ps := ["line"]) fun _ _ _ _ _ _ us hl => match us, hl with | [_], _ => rfl
  have S13 : FnScope ["line", "first", "second", "rest", "modulus", "listed"] ["line"] (defScope (top 28)) := ⟨rfl, rfl, rfl, by decide +kernel, rfl, by decide +kernel, by decide +kernel⟩
  have F14 := fun_mk (st := top 29) l14 c14 k14
  have B14 := F14.binds (ps := ["modulus", "listed"]) fun _ _ _ _ _ _ us hl => match us, hl with | [_, _], _ => rfl
  have S14 : FnScope ["modulus", "listed", "weight"] ["modulus", "listed"] (defScope (top 29)) := ⟨rfl, rfl, rfl, by decide +kernel, rfl, by decide +kernel, by decide +kernel⟩
  have F15 := fun_mk (st := top 30) l15 c15 k15
  have B15 := F15.binds (ps := ["text"]) fun _ _ _ _ _ _ us hl => match us, hl with | [_], _ => rfl
  have S15 : FnScope ["text", "modulus", "listed"] ["text"] (defScope (top 30)) := ⟨rfl, rfl, rfl, by decide +kernel, rfl, by decide +kernel, by decide +kernel⟩
  have F16 := fun_mk (st := top 32) l16 c16 k16
  have B16 := F16.binds (ps := ["script", "at", "count"]) fun _ _ _ _ _ _ us hl => match us, hl with | [_, _, _], _ => rfl
  have S16 : FnScope ["script", "at", "count", "cell", "numbers", "k", "mixed"] ["script", "at", "count"] (defScope (top 32)) := ⟨rfl, rfl, rfl, by decide +kernel, rfl, by decide +kernel, by decide +kernel⟩
  have F17 := fun_mk (st := top 33) l17 c17 k17
  have B17 := F17.binds (ps := ["value"]) fun _ _ _ _ _ _ us hl => match us, hl with | [_], _ => rfl
  have S17 : FnScope ["value"] ["value"] (defScope (top 33)) := ⟨rfl, rfl, rfl, by decide +kernel, rfl, by decide +kernel, by decide +kernel⟩
  have F18 := fun_mk (st := top 34) l18 c18 k18
  have B18 := F18.binds (ps := ["actual", "due"]) fun _ _ _ _ _ _ us hl => match us, hl with | [_, _], _ => rfl
  have S18 : FnScope ["actual", "due", "k"] ["actual", "due"] (defScope (top 34)) := ⟨rfl, rfl, rfl, by decide +kernel, rfl, by decide +kernel, by decide +kernel⟩
  have F19 := fun_mk (st := top 35) l19 c19 k19
  have B19 := F19.binds (ps := ["items"]) fun _ _ _ _ _ _ us hl => match us, hl with | [_], _ => rfl
  have S19 : FnScope ["items", "found", "item", "sign"] ["items"] (defScope (top 35)) := ⟨rfl, rfl, rfl, by decide +kernel, rfl, by decide +kernel, by decide +kernel⟩
  have F20 := fun_mk (st := top 36) l20 c20 k20
  have B20 := F20.binds (ps := ["line"]) fun _ _ _ _ _ _ us hl => match us, hl with | [_], _ => rfl
  have S20 : FnScope ["line", "items", "numbers"] ["line"] (defScope (top 36)) := ⟨rfl, rfl, rfl, by decide +kernel, rfl, by decide +kernel, by decide +kernel⟩
  have F21 := fun_mk (st := top 37) l21 c21 k21
  have B21 := F21.binds (ps := ["which", "text"]) fun _ _ _ _ _ _ us hl => match us, hl with | [_, _], _ => rfl
  have S21 : FnScope ["which", "text", "lines", "at", "modulus", "listed", "weight"] ["which", "text"] (defScope (top 37)) := ⟨rfl, rfl, rfl, by decide +kernel, rfl, by decide +kernel, by decide +kernel⟩
  have F22 := fun_mk (st := top 38) l22 c22 k22
  have B22 := F22.binds (ps := ["which", "text"]) fun _ _ _ _ _ _ us hl => match us, hl with | [_, _], _ => rfl
  have S22 : FnScope ["which", "text", "e"] ["which", "text"] (defScope (top 38)) := ⟨rfl, rfl, rfl, by decide +kernel, rfl, by decide +kernel, by decide +kernel⟩
  have F23 := fun_mk (st := top 39) l23 c23 k23
  have B23 := F23.binds (ps := ["which", "text"]) fun _ _ _ _ _ _ us hl => match us, hl with | [_, _], _ => rfl
  have S23 : FnScope ["which", "text", "due", "actual"] ["which", "text"] (defScope (top 39)) := ⟨rfl, rfl, rfl, by decide +kernel, rfl, by decide +kernel, by decide +kernel⟩
  have F24 := fun_mk (st := top 40) l24 c24 k24
  have B24 := F24.binds (ps := ["text", "numbers"]) fun _ _ _ _ _ _ us hl => match us, hl with | [_, _], _ => rfl
  have S24 : FnScope ["text", "numbers", "at", "sign", "lines", "line", "other", "way", "words", "found"] ["text", "numbers"] (defScope (top 40)) := ⟨rfl, rfl, rfl, by decide +kernel, rfl, by decide +kernel, by decide +kernel⟩
  have F25 := fun_mk (st := top 41) l25 c25 k25
  have B25 := F25.binds (ps := ["weights"]) fun _ _ _ _ _ _ us hl => match us, hl with | [_], _ => rfl
  have S25 : FnScope ["weights", "weight"] ["weights"] (defScope (top 41)) := ⟨rfl, rfl, rfl, by decide +kernel, rfl, by decide +kernel, by decide +kernel⟩
  have F26 := fun_mk (st := top 42) l26 c26 k26
  have B26 := F26.binds (ps := ["script"]) fun _ _ _ _ _ _ us hl => match us, hl with | [_], _ => rfl
  have S26 : FnScope ["script", "sizes", "modulus", "most", "listed", "k", "text", "handed", "shown", "told", "texts", "other", "turn", "numbers", "changed"] ["script"] (defScope (top 42)) := ⟨rfl, rfl, rfl, by decide +kernel, rfl, by decide +kernel, by decide +kernel⟩
  refine ⟨g, PySem.W.fnOf "law" "law" (defArgs (top 42)) (defBody (top 42)) (defScope (top 42)) .none kV26 dc26 pm26 an26 cd26 ct26, rfl, fun s u => .of_eq (by first | rfl | with_unfolding_all rfl), fun base _ _ => ?_⟩
  have hF : ∀ (f : Nat) (D : Df), ds[f]? = some D → ∃ fd, L2.Fun K D.x D.qual D.st (g.fa f) fd ∧ FnScope D.N D.ps (defScope D.st) ∧ Binds K fd D.ps [] := fun f D e => by
    match f, e with
    | 0, e => have e := Option.some.inj e; subst e; exact ⟨_, F0, S0, B0⟩
    | 1, e => have e := Option.some.inj e; subst e; exact ⟨_, F1, S1, B1⟩
    | 2, e => have e := Option.some.inj e; subst e; exact ⟨_, F2, S2, B2⟩
    | 3, e => have e := Option.some.inj e; subst e; exact ⟨_, F3, S3, B3⟩
    | 4, e => have e := Option.some.inj e; subst e; exact ⟨_, F4, S4, B4⟩
    | 5, e => have e := Option.some.inj e; subst e; exact ⟨_, F5, S5, B5⟩
    | 6, e => have e := Option.some.inj e; subst e; exact ⟨_, F6, S6, B6⟩
    | 7, e => have e := Option.some.inj e; subst e; exact ⟨_, F7, S7, B7⟩
    | 8, e => have e := Option.some.inj e; subst e; exact ⟨_, F8, S8, B8⟩
    | 9, e => have e := Option.some.inj e; subst e; exact ⟨_, F9, S9, B9⟩
    | 10, e => have e := Option.some.inj e; subst e; exact ⟨_, F10, S10, B10⟩
    | 11, e => have e := Option.some.inj e; subst e; exact ⟨_, F11, S11, B11⟩
    | 12, e => have e := Option.some.inj e; subst e; exact ⟨_, F12, S12, B12⟩
    | 13, e => have e := Option.some.inj e; subst e; exact ⟨_, F13, S13, B13⟩
    | 14, e => have e := Option.some.inj e; subst e; exact ⟨_, F14, S14, B14⟩
    | 15, e => have e := Option.some.inj e; subst e; exact ⟨_, F15, S15, B15⟩
    | 16, e => have e := Option.some.inj e; subst e; exact ⟨_, F16, S16, B16⟩
    | 17, e => have e := Option.some.inj e; subst e; exact ⟨_, F17, S17, B17⟩
    | 18, e => have e := Option.some.inj e; subst e; exact ⟨_, F18, S18, B18⟩
    | 19, e => have e := Option.some.inj e; subst e; exact ⟨_, F19, S19, B19⟩
    | 20, e => have e := Option.some.inj e; subst e; exact ⟨_, F20, S20, B20⟩
    | 21, e => have e := Option.some.inj e; subst e; exact ⟨_, F21, S21, B21⟩
    | 22, e => have e := Option.some.inj e; subst e; exact ⟨_, F22, S22, B22⟩
    | 23, e => have e := Option.some.inj e; subst e; exact ⟨_, F23, S23, B23⟩
    | 24, e => have e := Option.some.inj e; subst e; exact ⟨_, F24, S24, B24⟩
    | 25, e => have e := Option.some.inj e; subst e; exact ⟨_, F25, S25, B25⟩
    | 26, e => have e := Option.some.inj e; subst e; exact ⟨_, F26, S26, B26⟩
    | n + 27, e => cases e
  have hb : ∀ (d f : Nat) (D : Df) (fe : Fd), ds[f]? = some D → P.fds[f]? = some fe → fe.n = D.N.length ∧ P.ks.getD f 0 = D.ps.length ∧ SSs (sgOf g mg P d D.N) (defScope D.st) 2 (defBody D.st) fe.body := fun d f D fe e e2 => by
    match f, e, e2 with
    | 0, e, e2 => have e := Option.some.inj e; have e2 := Option.some.inj e2; subst e; subst e2; exact ⟨rfl, rfl, s0 G d⟩
    | 1, e, e2 => have e := Option.some.inj e; have e2 := Option.some.inj e2; subst e; subst e2; exact ⟨rfl, rfl, s1 G d⟩
    | 2, e, e2 => have e := Option.some.inj e; have e2 := Option.some.inj e2; subst e; subst e2; exact ⟨rfl, rfl, s2 G d⟩
    | 3, e, e2 => have e := Option.some.inj e; have e2 := Option.some.inj e2; subst e; subst e2; exact ⟨rfl, rfl, s3 G d⟩
    | 4, e, e2 => have e := Option.some.inj e; have e2 := Option.some.inj e2; subst e; subst e2; exact ⟨rfl, rfl, s4 G d⟩
    | 5, e, e2 => have e := Option.some.inj e; have e2 := Option.some.inj e2; subst e; subst e2; exact ⟨rfl, rfl, s5 G d⟩
    | 6, e, e2 => have e := Option.some.inj e; have e2 := Option.some.inj e2; subst e; subst e2; exact ⟨rfl, rfl, s6 G d⟩
    | 7, e, e2 => have e := Option.some.inj e; have e2 := Option.some.inj e2; subst e; subst e2; exact ⟨rfl, rfl, s7 G T3 rfl d⟩
    | 8, e, e2 => have e := Option.some.inj e; have e2 := Option.some.inj e2; subst e; subst e2; exact ⟨rfl, rfl, s8 G d⟩
    | 9, e, e2 => have e := Option.some.inj e; have e2 := Option.some.inj e2; subst e; subst e2; exact ⟨rfl, rfl, s9 G d⟩
    | 10, e, e2 => have e := Option.some.inj e; have e2 := Option.some.inj e2; subst e; subst e2; exact ⟨rfl, rfl, s10 G T3 rfl d⟩
    | 11, e, e2 => have e := Option.some.inj e; have e2 := Option.some.inj e2; subst e; subst e2; exact ⟨rfl, rfl, s11 G T3 rfl d⟩
    | 12, e, e2 => have e := Option.some.inj e; have e2 := Option.some.inj e2; subst e; subst e2; exact ⟨rfl, rfl, s12 G d⟩
    | 13, e, e2 => have e := Option.some.inj e; have e2 := Option.some.inj e2; subst e; subst e2; exact ⟨rfl, rfl, s13 G d⟩
    | 14, e, e2 => have e := Option.some.inj e; have e2 := Option.some.inj e2; subst e; subst e2; exact ⟨rfl, rfl, s14 G d⟩
    | 15, e, e2 => have e := Option.some.inj e; have e2 := Option.some.inj e2; subst e; subst e2; exact ⟨rfl, rfl, s15 G d⟩
    | 16, e, e2 => have e := Option.some.inj e; have e2 := Option.some.inj e2; subst e; subst e2; exact ⟨rfl, rfl, s16 G d⟩
    | 17, e, e2 => have e := Option.some.inj e; have e2 := Option.some.inj e2; subst e; subst e2; exact ⟨rfl, rfl, s17 G d⟩
    | 18, e, e2 => have e := Option.some.inj e; have e2 := Option.some.inj e2; subst e; subst e2; exact ⟨rfl, rfl, s18 G d⟩
    | 19, e, e2 => have e := Option.some.inj e; have e2 := Option.some.inj e2; subst e; subst e2; exact ⟨rfl, rfl, s19 G d⟩
    | 20, e, e2 => have e := Option.some.inj e; have e2 := Option.some.inj e2; subst e; subst e2; exact ⟨rfl, rfl, s20 G d⟩
    | 21, e, e2 => have e := Option.some.inj e; have e2 := Option.some.inj e2; subst e; subst e2; exact ⟨rfl, rfl, s21 G d⟩
    | 22, e, e2 => have e := Option.some.inj e; have e2 := Option.some.inj e2; subst e; subst e2; exact ⟨rfl, rfl, s22 G X0 T3 rfl d⟩
    | 23, e, e2 => have e := Option.some.inj e; have e2 := Option.some.inj e2; subst e; subst e2; exact ⟨rfl, rfl, s23 G d⟩
    | 24, e, e2 => have e := Option.some.inj e; have e2 := Option.some.inj e2; subst e; subst e2; exact ⟨rfl, rfl, s24 G d⟩
    | 25, e, e2 => have e := Option.some.inj e; have e2 := Option.some.inj e2; subst e; subst e2; exact ⟨rfl, rfl, s25 G d⟩
    | 26, e, e2 => have e := Option.some.inj e; have e2 := Option.some.inj e2; subst e; subst e2; exact ⟨rfl, rfl, s26 G d⟩
    | n + 27, e, e2 => cases e
  have ho : ∀ f, ds.length ≤ f → g.fa f = g.fa 0 := fun f h => by
    have h : ([f0, f1, f2, f3, f4, f5, f6, f7, f8, f9, f10, f11, f12, f13, f14, f15, f16, f17, f18, f19, f20, f21, f22, f23, f24, f25, f26] : List Addr).length ≤ f := h
    show ([f0, f1, f2, f3, f4, f5, f6, f7, f8, f9, f10, f11, f12, f13, f14, f15, f16, f17, f18, f19, f20, f21, f22, f23, f24, f25, f26] : List Addr).getD f f0 = f0
    rw [List.getD_eq_getElem?_getD, List.getElem?_eq_none h]
    rfl
  obtain ⟨fd, F, B, O⟩ := prog_ok (Pr := Pr) (w := w) (K := K) (mg := mg) (base := base) (g := g) (P := P) (ds := ds) rfl rfl (by decide) hF ho hb 100 26 _ rfl
  obtain ⟨_, _, _, _, _, _, _, _, _, hfd, lk, _⟩ := F.ex
  have lk2 := l26
  have e3 := lk2.symm.trans lk
  have e4 := congrArg Obj.data (Option.some.inj e3)
  have e5 := Data.func.inj e4
  rw [e5]
  exact O
end Wk81
set_option Elab.async false
set_option linter.all false
set_option maxRecDepth 100000
set_option maxHeartbeats 2000000
namespace Wk81
open EV
theorem f0 (d : Nat) (s : List Nat) : callF P (d + 1) 0 [.str s] = .ok .sh (.bl (decide (1 ≤ s.length) && decide (s.length ≤ 18) && s.all isFig)) := by
  rw [e0]
  simp -implicitDefEqProofs only [b0, execs, exec, ev, evs, evC, List.getElem?_cons_zero, List.getElem?_cons_succ, sl_sh, fin_f, cons_sh, lbind_ok, b_len_str, bind_ok, chnR_eq c_le_int, cmpR_eq c_le_int, itm, clr, slots, Option.map, ofO_some, tgB, List.set_cons_zero, List.set_cons_succ]
  rw [all_sgn (p := isFig) s (fun c => rfl) (fun c => by simp -implicitDefEqProofs only [sl_sh, bind_ok, cmpR_eq c_in_sgn, nox_ok, fig_eq])]
  simp -implicitDefEqProofs only [cons_fr, lbind_ok, b_all, allT_map, ofB_some']
  by_cases h1 : 1 ≤ s.length
  · have h1' : (1 : Int) ≤ s.length := by omega
    simp -implicitDefEqProofs only [h1, h1', decide_true, if_true, Bool.true_and, cond_b]
    by_cases h2 : s.length ≤ 18
    · have h2' : (s.length : Int) ≤ 18 := by omega
      simp [h2, h2', fk_sh, seq_rt, ofFl_rt]
    · have h2' : ¬ (s.length : Int) ≤ 18 := by omega
      simp [h2, h2', fk_sh, seq_rt, ofFl_rt]
  · have h1' : ¬ (1 : Int) ≤ s.length := by omega
    simp [h1, h1', cond_b, fk_sh, seq_rt, ofFl_rt]
theorem f1 (d : Nat) (s : List Nat) : callF P (d + 2) 1 [.str s] = .ok .sh (oN (rdNum s)) := by
  rw [e1]
  unfold rdNum
  cases hf : (decide (1 ≤ s.length) && decide (s.length ≤ 18) && s.all isFig) with
  | false => simp -implicitDefEqProofs only [b1, execs, exec, ev, evs, evC, evP, execM, List.getElem?_cons_zero, List.getElem?_cons_succ, sl_sh, sl_ow, sl_sht, sl_owt, fin_f, fin_t, cons_sh, cons_fr, cons_bo, cons_ex, cons_ok_ex, lbind_ok, lbind_ex, bind_ok, bind_ex, cond_b, kp_sh, kp_fr, kp_ex, tru_bl, tru_ex, tru_lst, tru_str, ofB_some', ofV_some, ofO_some, nox_ok, chnR_eq c_le_int, cmpR_eq c_le_int, cmpR_eq c_lt_int, cmpR_eq c_ge_int, cmpR_eq c_gt_int, cmpR_eq c_eq_int, cmpR_eq c_ne_int, cmpR_eq c_eq_str, cmpR_eq c_ne_str, cmpR_eq c_in_sgn, cmpR_eq c_nin_sgn, cmpR_eq c_is_non, cmpR_eq c_isnot_non, b_len_lst, b_len_tup, b_len_cdt, b_len_str, b_all, b_int_int, b_int_bl, b_int_str, b_str_int, b_str_str, b_isinst, b_list_lst, b_list_dct, b_tuple_lst, strK_str, m_sw, fk_sh, fk_fr, fk_ex, fl_ok, fl_ex, lfl_ok, lfl_ex, fc_b, fc_ex, seq_nx, seq_rt, seq_ex, seq_bk, seq_ct, ofFl_rt, ofFl_nx, ofFl_ex, turn_nx, turn_ct, turn_bk, turn_rt, turn_ex, it_lst, it_tup, it_str, it_rng1, it_rng2, it_enum, cmpR_eq c_ne_bl, cmpR_eq c_eq_bl, List.length_cons, List.length_nil, Nat.zero_add, Nat.reduceAdd, Nat.reduceLeDiff, BEq.rfl, clr, slots, Option.map, tgB, List.set_cons_zero, List.set_cons_succ, calR, toSl, Bool.false_eq_true, if_false, if_true, rtlR, frzL, frz1, List.foldl_cons, List.foldl_nil, owOf, ownK, lstK, appP, owS, raiR, tupR, lstR, Bool.not_true, Bool.not_false, nobF, ofF, ty_int0, ty_int1, ty_int2, ty_int3, ty_int4, is23_int, ty_str0, ty_str1, ty_str2, ty_str3, ty_str4, is23_str, ty_lst0, ty_lst1, ty_lst2, ty_lst3, ty_lst4, is23_lst, ty_tup0, ty_tup1, ty_tup2, ty_tup3, ty_tup4, is23_tup, ty_bl0, ty_bl1, ty_bl2, ty_bl3, ty_bl4, is23_bl, ty_non0, ty_non1, ty_non2, ty_non3, ty_non4, is23_non, f0, hf, oN]
  | true =>
    have hf' := hf
    simp -implicitDefEqProofs only [Bool.and_eq_true, decide_eq_true_eq] at hf'
    have hi : (s.all isFig && decide (0 < s.length) && decide (s.length ≤ 600)) = true := by
      simp -implicitDefEqProofs only [Bool.and_eq_true, decide_eq_true_eq]
      exact ⟨⟨hf'.2, by omega⟩, by omega⟩
    cases hp : pre [48] s <;> cases hq : s == [48] <;> simp -implicitDefEqProofs only [b1, execs, exec, ev, evs, evC, evP, execM, List.getElem?_cons_zero, List.getElem?_cons_succ, sl_sh, sl_ow, sl_sht, sl_owt, fin_f, fin_t, cons_sh, cons_fr, cons_bo, cons_ex, cons_ok_ex, lbind_ok, lbind_ex, bind_ok, bind_ex, cond_b, kp_sh, kp_fr, kp_ex, tru_bl, tru_ex, tru_lst, tru_str, ofB_some', ofV_some, ofO_some, nox_ok, chnR_eq c_le_int, cmpR_eq c_le_int, cmpR_eq c_lt_int, cmpR_eq c_ge_int, cmpR_eq c_gt_int, cmpR_eq c_eq_int, cmpR_eq c_ne_int, cmpR_eq c_eq_str, cmpR_eq c_ne_str, cmpR_eq c_in_sgn, cmpR_eq c_nin_sgn, cmpR_eq c_is_non, cmpR_eq c_isnot_non, b_len_lst, b_len_tup, b_len_cdt, b_len_str, b_all, b_int_int, b_int_bl, b_int_str, b_str_int, b_str_str, b_isinst, b_list_lst, b_list_dct, b_tuple_lst, strK_str, m_sw, fk_sh, fk_fr, fk_ex, fl_ok, fl_ex, lfl_ok, lfl_ex, fc_b, fc_ex, seq_nx, seq_rt, seq_ex, seq_bk, seq_ct, ofFl_rt, ofFl_nx, ofFl_ex, turn_nx, turn_ct, turn_bk, turn_rt, turn_ex, it_lst, it_tup, it_str, it_rng1, it_rng2, it_enum, cmpR_eq c_ne_bl, cmpR_eq c_eq_bl, List.length_cons, List.length_nil, Nat.zero_add, Nat.reduceAdd, Nat.reduceLeDiff, BEq.rfl, clr, slots, Option.map, tgB, List.set_cons_zero, List.set_cons_succ, calR, toSl, Bool.false_eq_true, if_false, if_true, rtlR, frzL, frz1, List.foldl_cons, List.foldl_nil, owOf, ownK, lstK, appP, owS, raiR, tupR, lstR, Bool.not_true, Bool.not_false, nobF, ofF, ty_int0, ty_int1, ty_int2, ty_int3, ty_int4, is23_int, ty_str0, ty_str1, ty_str2, ty_str3, ty_str4, is23_str, ty_lst0, ty_lst1, ty_lst2, ty_lst3, ty_lst4, is23_lst, ty_tup0, ty_tup1, ty_tup2, ty_tup3, ty_tup4, is23_tup, ty_bl0, ty_bl1, ty_bl2, ty_bl3, ty_bl4, is23_bl, ty_non0, ty_non1, ty_non2, ty_non3, ty_non4, is23_non, f0, hf, hi, hp, hq, oN, Bool.true_and, Bool.false_and]
theorem f4 (d : Nat) (s : List Nat) : callF P (d + 1) 4 [.str s] = .ok .fr (.lst ((splitOn 10 s).map .str)) := by
  rw [e4]
  simp -implicitDefEqProofs only [b4, execs, exec, ev, evs, evC, evP, execM, List.getElem?_cons_zero, List.getElem?_cons_succ, sl_sh, sl_ow, sl_sht, sl_owt, fin_f, fin_t, cons_sh, cons_fr, cons_bo, cons_ex, cons_ok_ex, lbind_ok, lbind_ex, bind_ok, bind_ex, cond_b, kp_sh, kp_fr, kp_ex, tru_bl, tru_ex, tru_lst, tru_str, ofB_some', ofV_some, ofO_some, nox_ok, chnR_eq c_le_int, cmpR_eq c_le_int, cmpR_eq c_lt_int, cmpR_eq c_ge_int, cmpR_eq c_gt_int, cmpR_eq c_eq_int, cmpR_eq c_ne_int, cmpR_eq c_eq_str, cmpR_eq c_ne_str, cmpR_eq c_in_sgn, cmpR_eq c_nin_sgn, cmpR_eq c_is_non, cmpR_eq c_isnot_non, b_len_lst, b_len_tup, b_len_cdt, b_len_str, b_all, b_int_int, b_int_bl, b_int_str, b_str_int, b_str_str, b_isinst, b_list_lst, b_list_dct, b_tuple_lst, strK_str, m_sw, fk_sh, fk_fr, fk_ex, fl_ok, fl_ex, lfl_ok, lfl_ex, fc_b, fc_ex, seq_nx, seq_rt, seq_ex, seq_bk, seq_ct, ofFl_rt, ofFl_nx, ofFl_ex, turn_nx, turn_ct, turn_bk, turn_rt, turn_ex, it_lst, it_tup, it_str, it_rng1, it_rng2, it_enum, cmpR_eq c_ne_bl, cmpR_eq c_eq_bl, List.length_cons, List.length_nil, Nat.zero_add, Nat.reduceAdd, Nat.reduceLeDiff, BEq.rfl, clr, slots, Option.map, tgB, List.set_cons_zero, List.set_cons_succ, calR, toSl, Bool.false_eq_true, if_false, if_true, rtlR, frzL, frz1, List.foldl_cons, List.foldl_nil, owOf, ownK, lstK, appP, owS, raiR, tupR, lstR, Bool.not_true, Bool.not_false, nobF, ofF, ty_int0, ty_int1, ty_int2, ty_int3, ty_int4, is23_int, ty_str0, ty_str1, ty_str2, ty_str3, ty_str4, is23_str, ty_lst0, ty_lst1, ty_lst2, ty_lst3, ty_lst4, is23_lst, ty_tup0, ty_tup1, ty_tup2, ty_tup3, ty_tup4, is23_tup, ty_bl0, ty_bl1, ty_bl2, ty_bl3, ty_bl4, is23_bl, ty_non0, ty_non1, ty_non2, ty_non3, ty_non4, is23_non, m_split (show 10 < 128 by decide)]
theorem f5 (d : Nat) (s : List Nat) : callF P (d + 1) 5 [.str s] = .ok .fr (.lst ((splitOn 32 s).map .str)) := by
  rw [e5]
  simp -implicitDefEqProofs only [b5, execs, exec, ev, evs, evC, evP, execM, List.getElem?_cons_zero, List.getElem?_cons_succ, sl_sh, sl_ow, sl_sht, sl_owt, fin_f, fin_t, cons_sh, cons_fr, cons_bo, cons_ex, cons_ok_ex, lbind_ok, lbind_ex, bind_ok, bind_ex, cond_b, kp_sh, kp_fr, kp_ex, tru_bl, tru_ex, tru_lst, tru_str, ofB_some', ofV_some, ofO_some, nox_ok, chnR_eq c_le_int, cmpR_eq c_le_int, cmpR_eq c_lt_int, cmpR_eq c_ge_int, cmpR_eq c_gt_int, cmpR_eq c_eq_int, cmpR_eq c_ne_int, cmpR_eq c_eq_str, cmpR_eq c_ne_str, cmpR_eq c_in_sgn, cmpR_eq c_nin_sgn, cmpR_eq c_is_non, cmpR_eq c_isnot_non, b_len_lst, b_len_tup, b_len_cdt, b_len_str, b_all, b_int_int, b_int_bl, b_int_str, b_str_int, b_str_str, b_isinst, b_list_lst, b_list_dct, b_tuple_lst, strK_str, m_sw, fk_sh, fk_fr, fk_ex, fl_ok, fl_ex, lfl_ok, lfl_ex, fc_b, fc_ex, seq_nx, seq_rt, seq_ex, seq_bk, seq_ct, ofFl_rt, ofFl_nx, ofFl_ex, turn_nx, turn_ct, turn_bk, turn_rt, turn_ex, it_lst, it_tup, it_str, it_rng1, it_rng2, it_enum, cmpR_eq c_ne_bl, cmpR_eq c_eq_bl, List.length_cons, List.length_nil, Nat.zero_add, Nat.reduceAdd, Nat.reduceLeDiff, BEq.rfl, clr, slots, Option.map, tgB, List.set_cons_zero, List.set_cons_succ, calR, toSl, Bool.false_eq_true, if_false, if_true, rtlR, frzL, frz1, List.foldl_cons, List.foldl_nil, owOf, ownK, lstK, appP, owS, raiR, tupR, lstR, Bool.not_true, Bool.not_false, nobF, ofF, ty_int0, ty_int1, ty_int2, ty_int3, ty_int4, is23_int, ty_str0, ty_str1, ty_str2, ty_str3, ty_str4, is23_str, ty_lst0, ty_lst1, ty_lst2, ty_lst3, ty_lst4, is23_lst, ty_tup0, ty_tup1, ty_tup2, ty_tup3, ty_tup4, is23_tup, ty_bl0, ty_bl1, ty_bl2, ty_bl3, ty_bl4, is23_bl, ty_non0, ty_non1, ty_non2, ty_non3, ty_non4, is23_non, m_split (show 32 < 128 by decide)]
theorem f7n (d : Nat) (i : Int) : callF P (d + 1) 7 [.non, .int i] = .ex ⟨3, some (.int i)⟩ := by rw [e7]; rfl
theorem f7s (d : Nat) (v : PV) (i : Int) (h : isNonP v = false) : callF P (d + 1) 7 [v, .int i] = .ok .sh v := by
  rw [e7]
  have c : cmpP .is v .non = some (isNonP v) := c_is_non
  cases v <;> first | (cases h; done) | rfl
/-- read_from -/
def rdF (vs : List PV) (first : Int) : Rs := match vs.findIdx? isNonP with
  | some i => .ex ⟨3, some (.int (first + i))⟩
  | none => .ok .fr (.lst vs)
theorem turns_enum {f t : PV → Rs} {rl : PV → PV} {first : Int} (ht : ∀ (i : Nat) x, t (.tup [.int i, x]) = .ok .sh (.bl true)) : ∀ (ls : List PV) (k : Nat) (acc : List PV), (∀ (i : Nat) x, x ∈ ls → f (.tup [.int i, x]) = if isNonP (rl x) then .ex ⟨3, some (.int (first + i))⟩ else .ok .sh (rl x)) →
    turns f t ((ls.zipIdx k).map fun p => .tup [.int p.2, p.1]) acc = match (ls.map rl).findIdx? isNonP with
      | some i => .ex ⟨3, some (.int (first + (k + i : Nat)))⟩
      | none => .ok .fr (.lst (acc ++ ls.map rl))
  | [], k, acc, _ => by simp [turns]
  | x :: ls, k, acc, h => by
    have ih := turns_enum ht ls (k + 1) (acc ++ [rl x]) (fun i y hy => h i y (List.mem_cons_of_mem _ hy))
    simp -implicitDefEqProofs only [List.zipIdx_cons, List.map_cons, turns, ht, cond_b, if_true, h k x List.mem_cons_self, List.findIdx?_cons]
    cases hx : isNonP (rl x) with
    | true => simp [kp_ex]
    | false =>
      simp -implicitDefEqProofs only [Bool.false_eq_true, if_false, kp_sh, ih]
      cases (ls.map rl).findIdx? isNonP with
      | none => simp
      | some i =>
        simp -implicitDefEqProofs only [Option.map_some]
        congr 4
        omega
theorem f8 (d r : Nat) (rl : PV → PV) (ls : List PV) (first : Int) (hr : ∀ x ∈ ls, callF P (d + 3) r [x] = .ok .sh (rl x)) : callF P (d + 4) 8 [.lst ls, .int first, .fn r] = rdF (ls.map rl) first := by
  rw [e8]
  simp -implicitDefEqProofs only [b8, execs, exec, ev, evs, evC, evP, execM, List.getElem?_cons_zero, List.getElem?_cons_succ, sl_sh, sl_ow, sl_sht, sl_owt, fin_f, fin_t, cons_sh, cons_fr, cons_bo, cons_ex, cons_ok_ex, lbind_ok, lbind_ex, bind_ok, bind_ex, cond_b, kp_sh, kp_fr, kp_ex, tru_bl, tru_ex, tru_lst, tru_str, ofB_some', ofV_some, ofO_some, nox_ok, chnR_eq c_le_int, cmpR_eq c_le_int, cmpR_eq c_lt_int, cmpR_eq c_ge_int, cmpR_eq c_gt_int, cmpR_eq c_eq_int, cmpR_eq c_ne_int, cmpR_eq c_eq_str, cmpR_eq c_ne_str, cmpR_eq c_in_sgn, cmpR_eq c_nin_sgn, cmpR_eq c_is_non, cmpR_eq c_isnot_non, b_len_lst, b_len_tup, b_len_cdt, b_len_str, b_all, b_int_int, b_int_bl, b_int_str, b_str_int, b_str_str, b_isinst, b_list_lst, b_list_dct, b_tuple_lst, strK_str, m_sw, fk_sh, fk_fr, fk_ex, fl_ok, fl_ex, lfl_ok, lfl_ex, fc_b, fc_ex, seq_nx, seq_rt, seq_ex, seq_bk, seq_ct, ofFl_rt, ofFl_nx, ofFl_ex, turn_nx, turn_ct, turn_bk, turn_rt, turn_ex, it_lst, it_tup, it_str, it_rng1, it_rng2, it_enum, cmpR_eq c_ne_bl, cmpR_eq c_eq_bl, List.length_cons, List.length_nil, Nat.zero_add, Nat.reduceAdd, Nat.reduceLeDiff, BEq.rfl, clr, slots, Option.map, tgB, List.set_cons_zero, List.set_cons_succ, calR, toSl, Bool.false_eq_true, if_false, if_true, rtlR, frzL, frz1, List.foldl_cons, List.foldl_nil, owOf, ownK, lstK, appP, owS, raiR, tupR, lstR, Bool.not_true, Bool.not_false, nobF, ofF, ty_int0, ty_int1, ty_int2, ty_int3, ty_int4, is23_int, ty_str0, ty_str1, ty_str2, ty_str3, ty_str4, is23_str, ty_lst0, ty_lst1, ty_lst2, ty_lst3, ty_lst4, is23_lst, ty_tup0, ty_tup1, ty_tup2, ty_tup3, ty_tup4, is23_tup, ty_bl0, ty_bl1, ty_bl2, ty_bl3, ty_bl4, is23_bl, ty_non0, ty_non1, ty_non2, ty_non3, ty_non4, is23_non]
  rw [turns_enum (rl := rl) (first := first) (fun i x => rfl) ls 0 [] (fun i x hx => by
    simp -implicitDefEqProofs only [List.set_cons_zero, List.set_cons_succ, updL, tgB, Option.map, ofO_some, execs, exec, ev, evs, evC, evP, execM, List.getElem?_cons_zero, List.getElem?_cons_succ, sl_sh, sl_ow, sl_sht, sl_owt, fin_f, fin_t, cons_sh, cons_fr, cons_bo, cons_ex, cons_ok_ex, lbind_ok, lbind_ex, bind_ok, bind_ex, cond_b, kp_sh, kp_fr, kp_ex, tru_bl, tru_ex, tru_lst, tru_str, ofB_some', ofV_some, ofO_some, nox_ok, chnR_eq c_le_int, cmpR_eq c_le_int, cmpR_eq c_lt_int, cmpR_eq c_ge_int, cmpR_eq c_gt_int, cmpR_eq c_eq_int, cmpR_eq c_ne_int, cmpR_eq c_eq_str, cmpR_eq c_ne_str, cmpR_eq c_in_sgn, cmpR_eq c_nin_sgn, cmpR_eq c_is_non, cmpR_eq c_isnot_non, b_len_lst, b_len_tup, b_len_cdt, b_len_str, b_all, b_int_int, b_int_bl, b_int_str, b_str_int, b_str_str, b_isinst, b_list_lst, b_list_dct, b_tuple_lst, strK_str, m_sw, fk_sh, fk_fr, fk_ex, fl_ok, fl_ex, lfl_ok, lfl_ex, fc_b, fc_ex, seq_nx, seq_rt, seq_ex, seq_bk, seq_ct, ofFl_rt, ofFl_nx, ofFl_ex, turn_nx, turn_ct, turn_bk, turn_rt, turn_ex, it_lst, it_tup, it_str, it_rng1, it_rng2, it_enum, cmpR_eq c_ne_bl, cmpR_eq c_eq_bl, List.length_cons, List.length_nil, Nat.zero_add, Nat.reduceAdd, Nat.reduceLeDiff, BEq.rfl, clr, slots, Option.map, tgB, List.set_cons_zero, List.set_cons_succ, calR, toSl, Bool.false_eq_true, if_false, if_true, rtlR, frzL, frz1, List.foldl_cons, List.foldl_nil, owOf, ownK, lstK, appP, owS, raiR, tupR, lstR, Bool.not_true, Bool.not_false, nobF, ofF, ty_int0, ty_int1, ty_int2, ty_int3, ty_int4, is23_int, ty_str0, ty_str1, ty_str2, ty_str3, ty_str4, is23_str, ty_lst0, ty_lst1, ty_lst2, ty_lst3, ty_lst4, is23_lst, ty_tup0, ty_tup1, ty_tup2, ty_tup3, ty_tup4, is23_tup, ty_bl0, ty_bl1, ty_bl2, ty_bl3, ty_bl4, is23_bl, ty_non0, ty_non1, ty_non2, ty_non3, ty_non4, is23_non, fnOf, hr x hx, binP]
    cases hn : isNonP (rl x) with
    | true =>
      have e : rl x = .non := by
        revert hn
        cases rl x <;> intro hn <;> first | rfl | (cases hn)
      rw [e, f7n]
      rfl
    | false =>
      rw [f7s _ _ _ hn]
      rfl)]
  unfold rdF
  cases (ls.map rl).findIdx? isNonP with
  | none => simp -implicitDefEqProofs only [execs, exec, ev, evs, evC, evP, execM, List.getElem?_cons_zero, List.getElem?_cons_succ, sl_sh, sl_ow, sl_sht, sl_owt, fin_f, fin_t, cons_sh, cons_fr, cons_bo, cons_ex, cons_ok_ex, lbind_ok, lbind_ex, bind_ok, bind_ex, cond_b, kp_sh, kp_fr, kp_ex, tru_bl, tru_ex, tru_lst, tru_str, ofB_some', ofV_some, ofO_some, nox_ok, chnR_eq c_le_int, cmpR_eq c_le_int, cmpR_eq c_lt_int, cmpR_eq c_ge_int, cmpR_eq c_gt_int, cmpR_eq c_eq_int, cmpR_eq c_ne_int, cmpR_eq c_eq_str, cmpR_eq c_ne_str, cmpR_eq c_in_sgn, cmpR_eq c_nin_sgn, cmpR_eq c_is_non, cmpR_eq c_isnot_non, b_len_lst, b_len_tup, b_len_cdt, b_len_str, b_all, b_int_int, b_int_bl, b_int_str, b_str_int, b_str_str, b_isinst, b_list_lst, b_list_dct, b_tuple_lst, strK_str, m_sw, fk_sh, fk_fr, fk_ex, fl_ok, fl_ex, lfl_ok, lfl_ex, fc_b, fc_ex, seq_nx, seq_rt, seq_ex, seq_bk, seq_ct, ofFl_rt, ofFl_nx, ofFl_ex, turn_nx, turn_ct, turn_bk, turn_rt, turn_ex, it_lst, it_tup, it_str, it_rng1, it_rng2, it_enum, cmpR_eq c_ne_bl, cmpR_eq c_eq_bl, List.length_cons, List.length_nil, Nat.zero_add, Nat.reduceAdd, Nat.reduceLeDiff, BEq.rfl, clr, slots, Option.map, tgB, List.set_cons_zero, List.set_cons_succ, calR, toSl, Bool.false_eq_true, if_false, if_true, rtlR, frzL, frz1, List.foldl_cons, List.foldl_nil, owOf, ownK, lstK, appP, owS, raiR, tupR, lstR, Bool.not_true, Bool.not_false, nobF, ofF, ty_int0, ty_int1, ty_int2, ty_int3, ty_int4, is23_int, ty_str0, ty_str1, ty_str2, ty_str3, ty_str4, is23_str, ty_lst0, ty_lst1, ty_lst2, ty_lst3, ty_lst4, is23_lst, ty_tup0, ty_tup1, ty_tup2, ty_tup3, ty_tup4, is23_tup, ty_bl0, ty_bl1, ty_bl2, ty_bl3, ty_bl4, is23_bl, ty_non0, ty_non1, ty_non2, ty_non3, ty_non4, is23_non, List.nil_append]
  | some i => simp -implicitDefEqProofs only [execs, exec, ev, evs, evC, evP, execM, List.getElem?_cons_zero, List.getElem?_cons_succ, sl_sh, sl_ow, sl_sht, sl_owt, fin_f, fin_t, cons_sh, cons_fr, cons_bo, cons_ex, cons_ok_ex, lbind_ok, lbind_ex, bind_ok, bind_ex, cond_b, kp_sh, kp_fr, kp_ex, tru_bl, tru_ex, tru_lst, tru_str, ofB_some', ofV_some, ofO_some, nox_ok, chnR_eq c_le_int, cmpR_eq c_le_int, cmpR_eq c_lt_int, cmpR_eq c_ge_int, cmpR_eq c_gt_int, cmpR_eq c_eq_int, cmpR_eq c_ne_int, cmpR_eq c_eq_str, cmpR_eq c_ne_str, cmpR_eq c_in_sgn, cmpR_eq c_nin_sgn, cmpR_eq c_is_non, cmpR_eq c_isnot_non, b_len_lst, b_len_tup, b_len_cdt, b_len_str, b_all, b_int_int, b_int_bl, b_int_str, b_str_int, b_str_str, b_isinst, b_list_lst, b_list_dct, b_tuple_lst, strK_str, m_sw, fk_sh, fk_fr, fk_ex, fl_ok, fl_ex, lfl_ok, lfl_ex, fc_b, fc_ex, seq_nx, seq_rt, seq_ex, seq_bk, seq_ct, ofFl_rt, ofFl_nx, ofFl_ex, turn_nx, turn_ct, turn_bk, turn_rt, turn_ex, it_lst, it_tup, it_str, it_rng1, it_rng2, it_enum, cmpR_eq c_ne_bl, cmpR_eq c_eq_bl, List.length_cons, List.length_nil, Nat.zero_add, Nat.reduceAdd, Nat.reduceLeDiff, BEq.rfl, clr, slots, Option.map, tgB, List.set_cons_zero, List.set_cons_succ, calR, toSl, Bool.false_eq_true, if_false, if_true, rtlR, frzL, frz1, List.foldl_cons, List.foldl_nil, owOf, ownK, lstK, appP, owS, raiR, tupR, lstR, Bool.not_true, Bool.not_false, nobF, ofF, ty_int0, ty_int1, ty_int2, ty_int3, ty_int4, is23_int, ty_str0, ty_str1, ty_str2, ty_str3, ty_str4, is23_str, ty_lst0, ty_lst1, ty_lst2, ty_lst3, ty_lst4, is23_lst, ty_tup0, ty_tup1, ty_tup2, ty_tup3, ty_tup4, is23_tup, ty_bl0, ty_bl1, ty_bl2, ty_bl3, ty_bl4, is23_bl, ty_non0, ty_non1, ty_non2, ty_non3, ty_non4, is23_non, Nat.zero_add]
theorem f9 (d r : Nat) (rl : PV → PV) (s : List Nat) (hr : ∀ x ∈ (splitOn 10 s).map PV.str, callF P (d + 3) r [x] = .ok .sh (rl x)) : callF P (d + 5) 9 [.str s, .fn r] = rdF (((splitOn 10 s).map PV.str).map rl) 0 := by
  rw [e9]
  have h := f8 d r rl ((splitOn 10 s).map PV.str) 0 hr
  simp -implicitDefEqProofs only [b9, execs, exec, ev, evs, evC, evP, execM, List.getElem?_cons_zero, List.getElem?_cons_succ, sl_sh, sl_ow, sl_sht, sl_owt, fin_f, fin_t, cons_sh, cons_fr, cons_bo, cons_ex, cons_ok_ex, lbind_ok, lbind_ex, bind_ok, bind_ex, cond_b, kp_sh, kp_fr, kp_ex, tru_bl, tru_ex, tru_lst, tru_str, ofB_some', ofV_some, ofO_some, nox_ok, chnR_eq c_le_int, cmpR_eq c_le_int, cmpR_eq c_lt_int, cmpR_eq c_ge_int, cmpR_eq c_gt_int, cmpR_eq c_eq_int, cmpR_eq c_ne_int, cmpR_eq c_eq_str, cmpR_eq c_ne_str, cmpR_eq c_in_sgn, cmpR_eq c_nin_sgn, cmpR_eq c_is_non, cmpR_eq c_isnot_non, b_len_lst, b_len_tup, b_len_cdt, b_len_str, b_all, b_int_int, b_int_bl, b_int_str, b_str_int, b_str_str, b_isinst, b_list_lst, b_list_dct, b_tuple_lst, strK_str, m_sw, fk_sh, fk_fr, fk_ex, fl_ok, fl_ex, lfl_ok, lfl_ex, fc_b, fc_ex, seq_nx, seq_rt, seq_ex, seq_bk, seq_ct, ofFl_rt, ofFl_nx, ofFl_ex, turn_nx, turn_ct, turn_bk, turn_rt, turn_ex, it_lst, it_tup, it_str, it_rng1, it_rng2, it_enum, cmpR_eq c_ne_bl, cmpR_eq c_eq_bl, List.length_cons, List.length_nil, Nat.zero_add, Nat.reduceAdd, Nat.reduceLeDiff, BEq.rfl, clr, slots, Option.map, tgB, List.set_cons_zero, List.set_cons_succ, calR, toSl, Bool.false_eq_true, if_false, if_true, rtlR, frzL, frz1, List.foldl_cons, List.foldl_nil, owOf, ownK, lstK, appP, owS, raiR, tupR, lstR, Bool.not_true, Bool.not_false, nobF, ofF, ty_int0, ty_int1, ty_int2, ty_int3, ty_int4, is23_int, ty_str0, ty_str1, ty_str2, ty_str3, ty_str4, is23_str, ty_lst0, ty_lst1, ty_lst2, ty_lst3, ty_lst4, is23_lst, ty_tup0, ty_tup1, ty_tup2, ty_tup3, ty_tup4, is23_tup, ty_bl0, ty_bl1, ty_bl2, ty_bl3, ty_bl4, is23_bl, ty_non0, ty_non1, ty_non2, ty_non3, ty_non4, is23_non, f4]
  have e : callF P (d + 4) 8 [.lst ((splitOn 10 s).map PV.str), .int 0, .fn r] = rdF (((splitOn 10 s).map PV.str).map rl) 0 := h
  rw [e]
  unfold rdF
  cases (((splitOn 10 s).map PV.str).map rl).findIdx? isNonP <;> simp -implicitDefEqProofs only [execs, exec, ev, evs, evC, evP, execM, List.getElem?_cons_zero, List.getElem?_cons_succ, sl_sh, sl_ow, sl_sht, sl_owt, fin_f, fin_t, cons_sh, cons_fr, cons_bo, cons_ex, cons_ok_ex, lbind_ok, lbind_ex, bind_ok, bind_ex, cond_b, kp_sh, kp_fr, kp_ex, tru_bl, tru_ex, tru_lst, tru_str, ofB_some', ofV_some, ofO_some, nox_ok, chnR_eq c_le_int, cmpR_eq c_le_int, cmpR_eq c_lt_int, cmpR_eq c_ge_int, cmpR_eq c_gt_int, cmpR_eq c_eq_int, cmpR_eq c_ne_int, cmpR_eq c_eq_str, cmpR_eq c_ne_str, cmpR_eq c_in_sgn, cmpR_eq c_nin_sgn, cmpR_eq c_is_non, cmpR_eq c_isnot_non, b_len_lst, b_len_tup, b_len_cdt, b_len_str, b_all, b_int_int, b_int_bl, b_int_str, b_str_int, b_str_str, b_isinst, b_list_lst, b_list_dct, b_tuple_lst, strK_str, m_sw, fk_sh, fk_fr, fk_ex, fl_ok, fl_ex, lfl_ok, lfl_ex, fc_b, fc_ex, seq_nx, seq_rt, seq_ex, seq_bk, seq_ct, ofFl_rt, ofFl_nx, ofFl_ex, turn_nx, turn_ct, turn_bk, turn_rt, turn_ex, it_lst, it_tup, it_str, it_rng1, it_rng2, it_enum, cmpR_eq c_ne_bl, cmpR_eq c_eq_bl, List.length_cons, List.length_nil, Nat.zero_add, Nat.reduceAdd, Nat.reduceLeDiff, BEq.rfl, clr, slots, Option.map, tgB, List.set_cons_zero, List.set_cons_succ, calR, toSl, Bool.false_eq_true, if_false, if_true, rtlR, frzL, frz1, List.foldl_cons, List.foldl_nil, owOf, ownK, lstK, appP, owS, raiR, tupR, lstR, Bool.not_true, Bool.not_false, nobF, ofF, ty_int0, ty_int1, ty_int2, ty_int3, ty_int4, is23_int, ty_str0, ty_str1, ty_str2, ty_str3, ty_str4, is23_str, ty_lst0, ty_lst1, ty_lst2, ty_lst3, ty_lst4, is23_lst, ty_tup0, ty_tup1, ty_tup2, ty_tup3, ty_tup4, is23_tup, ty_bl0, ty_bl1, ty_bl2, ty_bl3, ty_bl4, is23_bl, ty_non0, ty_non1, ty_non2, ty_non3, ty_non4, is23_non]
theorem f17i (d : Nat) (i : Int) : callF P (d + 1) 17 [.int i] = .ok .sh (.bl true) := by rw [e17]; rfl
theorem same1 (d : Nat) (x : PV) (h : fl1 x = true) : callF P (d + 2) 18 [x, x] = .ok .sh (.bl true) := by
  rw [e18]
  cases x with
  | non => rfl
  | int i =>
    have e : (i == i) = true := by simp
    simp -implicitDefEqProofs only [b18, execs, exec, ev, evs, evC, evP, execM, List.getElem?_cons_zero, List.getElem?_cons_succ, sl_sh, sl_ow, sl_sht, sl_owt, fin_f, fin_t, cons_sh, cons_fr, cons_bo, cons_ex, cons_ok_ex, lbind_ok, lbind_ex, bind_ok, bind_ex, cond_b, kp_sh, kp_fr, kp_ex, tru_bl, tru_ex, tru_lst, tru_str, ofB_some', ofV_some, ofO_some, nox_ok, chnR_eq c_le_int, cmpR_eq c_le_int, cmpR_eq c_lt_int, cmpR_eq c_ge_int, cmpR_eq c_gt_int, cmpR_eq c_eq_int, cmpR_eq c_ne_int, cmpR_eq c_eq_str, cmpR_eq c_ne_str, cmpR_eq c_in_sgn, cmpR_eq c_nin_sgn, cmpR_eq c_is_non, cmpR_eq c_isnot_non, b_len_lst, b_len_tup, b_len_cdt, b_len_str, b_all, b_int_int, b_int_bl, b_int_str, b_str_int, b_str_str, b_isinst, b_list_lst, b_list_dct, b_tuple_lst, strK_str, m_sw, fk_sh, fk_fr, fk_ex, fl_ok, fl_ex, lfl_ok, lfl_ex, fc_b, fc_ex, seq_nx, seq_rt, seq_ex, seq_bk, seq_ct, ofFl_rt, ofFl_nx, ofFl_ex, turn_nx, turn_ct, turn_bk, turn_rt, turn_ex, it_lst, it_tup, it_str, it_rng1, it_rng2, it_enum, cmpR_eq c_ne_bl, cmpR_eq c_eq_bl, List.length_cons, List.length_nil, Nat.zero_add, Nat.reduceAdd, Nat.reduceLeDiff, BEq.rfl, clr, slots, Option.map, tgB, List.set_cons_zero, List.set_cons_succ, calR, toSl, Bool.false_eq_true, if_false, if_true, rtlR, frzL, frz1, List.foldl_cons, List.foldl_nil, owOf, ownK, lstK, appP, owS, raiR, tupR, lstR, Bool.not_true, Bool.not_false, nobF, ofF, ty_int0, ty_int1, ty_int2, ty_int3, ty_int4, is23_int, ty_str0, ty_str1, ty_str2, ty_str3, ty_str4, is23_str, ty_lst0, ty_lst1, ty_lst2, ty_lst3, ty_lst4, is23_lst, ty_tup0, ty_tup1, ty_tup2, ty_tup3, ty_tup4, is23_tup, ty_bl0, ty_bl1, ty_bl2, ty_bl3, ty_bl4, is23_bl, ty_non0, ty_non1, ty_non2, ty_non3, ty_non4, is23_non, f17i, e, Bool.or_false, isNonP, cmpR_eq c_eq_int]
  | str s =>
    have e : (s == s) = true := by simp
    simp -implicitDefEqProofs only [b18, execs, exec, ev, evs, evC, evP, execM, List.getElem?_cons_zero, List.getElem?_cons_succ, sl_sh, sl_ow, sl_sht, sl_owt, fin_f, fin_t, cons_sh, cons_fr, cons_bo, cons_ex, cons_ok_ex, lbind_ok, lbind_ex, bind_ok, bind_ex, cond_b, kp_sh, kp_fr, kp_ex, tru_bl, tru_ex, tru_lst, tru_str, ofB_some', ofV_some, ofO_some, nox_ok, chnR_eq c_le_int, cmpR_eq c_le_int, cmpR_eq c_lt_int, cmpR_eq c_ge_int, cmpR_eq c_gt_int, cmpR_eq c_eq_int, cmpR_eq c_ne_int, cmpR_eq c_eq_str, cmpR_eq c_ne_str, cmpR_eq c_in_sgn, cmpR_eq c_nin_sgn, cmpR_eq c_is_non, cmpR_eq c_isnot_non, b_len_lst, b_len_tup, b_len_cdt, b_len_str, b_all, b_int_int, b_int_bl, b_int_str, b_str_int, b_str_str, b_isinst, b_list_lst, b_list_dct, b_tuple_lst, strK_str, m_sw, fk_sh, fk_fr, fk_ex, fl_ok, fl_ex, lfl_ok, lfl_ex, fc_b, fc_ex, seq_nx, seq_rt, seq_ex, seq_bk, seq_ct, ofFl_rt, ofFl_nx, ofFl_ex, turn_nx, turn_ct, turn_bk, turn_rt, turn_ex, it_lst, it_tup, it_str, it_rng1, it_rng2, it_enum, cmpR_eq c_ne_bl, cmpR_eq c_eq_bl, List.length_cons, List.length_nil, Nat.zero_add, Nat.reduceAdd, Nat.reduceLeDiff, BEq.rfl, clr, slots, Option.map, tgB, List.set_cons_zero, List.set_cons_succ, calR, toSl, Bool.false_eq_true, if_false, if_true, rtlR, frzL, frz1, List.foldl_cons, List.foldl_nil, owOf, ownK, lstK, appP, owS, raiR, tupR, lstR, Bool.not_true, Bool.not_false, nobF, ofF, ty_int0, ty_int1, ty_int2, ty_int3, ty_int4, is23_int, ty_str0, ty_str1, ty_str2, ty_str3, ty_str4, is23_str, ty_lst0, ty_lst1, ty_lst2, ty_lst3, ty_lst4, is23_lst, ty_tup0, ty_tup1, ty_tup2, ty_tup3, ty_tup4, is23_tup, ty_bl0, ty_bl1, ty_bl2, ty_bl3, ty_bl4, is23_bl, ty_non0, ty_non1, ty_non2, ty_non3, ty_non4, is23_non, e, Bool.or_false, isNonP]
  | _ => cases h
theorem sameL (d : Nat) (xs : List PV) (hl : xs.length ≤ 8000000) (t : Bool) (h : ∀ x ∈ xs, callF P (d + 1) 18 [x, x] = .ok .sh (.bl true)) : callF P (d + 2) 18 [if t then .tup xs else .lst xs, if t then .tup xs else .lst xs] = .ok .sh (.bl true) := by
  rw [e18]
  have hb : ∀ b : Bool, (cmpP .ne (.bl b) (.bl b)) = some false := by intro b; cases b <;> rfl
  have hn : ((xs.length : Int) == xs.length) = true := by simp
  have hloop : ∀ v : PV, (v = .tup xs ∨ v = .lst xs) → ∀ i < xs.length, subP v (.int (i : Int)) = xs[i]? := by
    rintro v (rfl | rfl) i hi <;> exact atP_nat xs i hi
  cases t with
  | false =>
    simp -implicitDefEqProofs only [b18, execs, exec, ev, evs, evC, evP, execM, List.getElem?_cons_zero, List.getElem?_cons_succ, sl_sh, sl_ow, sl_sht, sl_owt, fin_f, fin_t, cons_sh, cons_fr, cons_bo, cons_ex, cons_ok_ex, lbind_ok, lbind_ex, bind_ok, bind_ex, cond_b, kp_sh, kp_fr, kp_ex, tru_bl, tru_ex, tru_lst, tru_str, ofB_some', ofV_some, ofO_some, nox_ok, chnR_eq c_le_int, cmpR_eq c_le_int, cmpR_eq c_lt_int, cmpR_eq c_ge_int, cmpR_eq c_gt_int, cmpR_eq c_eq_int, cmpR_eq c_ne_int, cmpR_eq c_eq_str, cmpR_eq c_ne_str, cmpR_eq c_in_sgn, cmpR_eq c_nin_sgn, cmpR_eq c_is_non, cmpR_eq c_isnot_non, b_len_lst, b_len_tup, b_len_cdt, b_len_str, b_all, b_int_int, b_int_bl, b_int_str, b_str_int, b_str_str, b_isinst, b_list_lst, b_list_dct, b_tuple_lst, strK_str, m_sw, fk_sh, fk_fr, fk_ex, fl_ok, fl_ex, lfl_ok, lfl_ex, fc_b, fc_ex, seq_nx, seq_rt, seq_ex, seq_bk, seq_ct, ofFl_rt, ofFl_nx, ofFl_ex, turn_nx, turn_ct, turn_bk, turn_rt, turn_ex, it_lst, it_tup, it_str, it_rng1, it_rng2, it_enum, cmpR_eq c_ne_bl, cmpR_eq c_eq_bl, List.length_cons, List.length_nil, Nat.zero_add, Nat.reduceAdd, Nat.reduceLeDiff, BEq.rfl, clr, slots, Option.map, tgB, List.set_cons_zero, List.set_cons_succ, calR, toSl, Bool.false_eq_true, if_false, if_true, rtlR, frzL, frz1, List.foldl_cons, List.foldl_nil, owOf, ownK, lstK, appP, owS, raiR, tupR, lstR, Bool.not_true, Bool.not_false, nobF, ofF, ty_int0, ty_int1, ty_int2, ty_int3, ty_int4, is23_int, ty_str0, ty_str1, ty_str2, ty_str3, ty_str4, is23_str, ty_lst0, ty_lst1, ty_lst2, ty_lst3, ty_lst4, is23_lst, ty_tup0, ty_tup1, ty_tup2, ty_tup3, ty_tup4, is23_tup, ty_bl0, ty_bl1, ty_bl2, ty_bl3, ty_bl4, is23_bl, ty_non0, ty_non1, ty_non2, ty_non3, ty_non4, is23_non, Bool.or_true, Bool.or_false, hn, inR_nat hl]
    rw [loop_true (e1 := fun i => [.sh (.lst xs), .sh (.lst xs), .sh (.int i)]) xs.length (fun i hi => by
      simp -implicitDefEqProofs only [execs, exec, ev, evs, evC, evP, execM, List.getElem?_cons_zero, List.getElem?_cons_succ, sl_sh, sl_ow, sl_sht, sl_owt, fin_f, fin_t, cons_sh, cons_fr, cons_bo, cons_ex, cons_ok_ex, lbind_ok, lbind_ex, bind_ok, bind_ex, cond_b, kp_sh, kp_fr, kp_ex, tru_bl, tru_ex, tru_lst, tru_str, ofB_some', ofV_some, ofO_some, nox_ok, chnR_eq c_le_int, cmpR_eq c_le_int, cmpR_eq c_lt_int, cmpR_eq c_ge_int, cmpR_eq c_gt_int, cmpR_eq c_eq_int, cmpR_eq c_ne_int, cmpR_eq c_eq_str, cmpR_eq c_ne_str, cmpR_eq c_in_sgn, cmpR_eq c_nin_sgn, cmpR_eq c_is_non, cmpR_eq c_isnot_non, b_len_lst, b_len_tup, b_len_cdt, b_len_str, b_all, b_int_int, b_int_bl, b_int_str, b_str_int, b_str_str, b_isinst, b_list_lst, b_list_dct, b_tuple_lst, strK_str, m_sw, fk_sh, fk_fr, fk_ex, fl_ok, fl_ex, lfl_ok, lfl_ex, fc_b, fc_ex, seq_nx, seq_rt, seq_ex, seq_bk, seq_ct, ofFl_rt, ofFl_nx, ofFl_ex, turn_nx, turn_ct, turn_bk, turn_rt, turn_ex, it_lst, it_tup, it_str, it_rng1, it_rng2, it_enum, cmpR_eq c_ne_bl, cmpR_eq c_eq_bl, List.length_cons, List.length_nil, Nat.zero_add, Nat.reduceAdd, Nat.reduceLeDiff, BEq.rfl, clr, slots, Option.map, tgB, List.set_cons_zero, List.set_cons_succ, calR, toSl, Bool.false_eq_true, if_false, if_true, rtlR, frzL, frz1, List.foldl_cons, List.foldl_nil, owOf, ownK, lstK, appP, owS, raiR, tupR, lstR, Bool.not_true, Bool.not_false, nobF, ofF, ty_int0, ty_int1, ty_int2, ty_int3, ty_int4, is23_int, ty_str0, ty_str1, ty_str2, ty_str3, ty_str4, is23_str, ty_lst0, ty_lst1, ty_lst2, ty_lst3, ty_lst4, is23_lst, ty_tup0, ty_tup1, ty_tup2, ty_tup3, ty_tup4, is23_tup, ty_bl0, ty_bl1, ty_bl2, ty_bl3, ty_bl4, is23_bl, ty_non0, ty_non1, ty_non2, ty_non3, ty_non4, is23_non, hloop _ (.inr rfl) i hi, List.getElem?_eq_getElem hi, h _ (List.getElem_mem hi)]) (fun i hi => by simp -implicitDefEqProofs only [execs, exec, ev, evs, evC, evP, execM, List.getElem?_cons_zero, List.getElem?_cons_succ, sl_sh, sl_ow, sl_sht, sl_owt, fin_f, fin_t, cons_sh, cons_fr, cons_bo, cons_ex, cons_ok_ex, lbind_ok, lbind_ex, bind_ok, bind_ex, cond_b, kp_sh, kp_fr, kp_ex, tru_bl, tru_ex, tru_lst, tru_str, ofB_some', ofV_some, ofO_some, nox_ok, chnR_eq c_le_int, cmpR_eq c_le_int, cmpR_eq c_lt_int, cmpR_eq c_ge_int, cmpR_eq c_gt_int, cmpR_eq c_eq_int, cmpR_eq c_ne_int, cmpR_eq c_eq_str, cmpR_eq c_ne_str, cmpR_eq c_in_sgn, cmpR_eq c_nin_sgn, cmpR_eq c_is_non, cmpR_eq c_isnot_non, b_len_lst, b_len_tup, b_len_cdt, b_len_str, b_all, b_int_int, b_int_bl, b_int_str, b_str_int, b_str_str, b_isinst, b_list_lst, b_list_dct, b_tuple_lst, strK_str, m_sw, fk_sh, fk_fr, fk_ex, fl_ok, fl_ex, lfl_ok, lfl_ex, fc_b, fc_ex, seq_nx, seq_rt, seq_ex, seq_bk, seq_ct, ofFl_rt, ofFl_nx, ofFl_ex, turn_nx, turn_ct, turn_bk, turn_rt, turn_ex, it_lst, it_tup, it_str, it_rng1, it_rng2, it_enum, cmpR_eq c_ne_bl, cmpR_eq c_eq_bl, List.length_cons, List.length_nil, Nat.zero_add, Nat.reduceAdd, Nat.reduceLeDiff, BEq.rfl, clr, slots, Option.map, tgB, List.set_cons_zero, List.set_cons_succ, calR, toSl, Bool.false_eq_true, if_false, if_true, rtlR, frzL, frz1, List.foldl_cons, List.foldl_nil, owOf, ownK, lstK, appP, owS, raiR, tupR, lstR, Bool.not_true, Bool.not_false, nobF, ofF, ty_int0, ty_int1, ty_int2, ty_int3, ty_int4, is23_int, ty_str0, ty_str1, ty_str2, ty_str3, ty_str4, is23_str, ty_lst0, ty_lst1, ty_lst2, ty_lst3, ty_lst4, is23_lst, ty_tup0, ty_tup1, ty_tup2, ty_tup3, ty_tup4, is23_tup, ty_bl0, ty_bl1, ty_bl2, ty_bl3, ty_bl4, is23_bl, ty_non0, ty_non1, ty_non2, ty_non3, ty_non4, is23_non])]
    simp -implicitDefEqProofs only [execs, exec, ev, evs, evC, evP, execM, List.getElem?_cons_zero, List.getElem?_cons_succ, sl_sh, sl_ow, sl_sht, sl_owt, fin_f, fin_t, cons_sh, cons_fr, cons_bo, cons_ex, cons_ok_ex, lbind_ok, lbind_ex, bind_ok, bind_ex, cond_b, kp_sh, kp_fr, kp_ex, tru_bl, tru_ex, tru_lst, tru_str, ofB_some', ofV_some, ofO_some, nox_ok, chnR_eq c_le_int, cmpR_eq c_le_int, cmpR_eq c_lt_int, cmpR_eq c_ge_int, cmpR_eq c_gt_int, cmpR_eq c_eq_int, cmpR_eq c_ne_int, cmpR_eq c_eq_str, cmpR_eq c_ne_str, cmpR_eq c_in_sgn, cmpR_eq c_nin_sgn, cmpR_eq c_is_non, cmpR_eq c_isnot_non, b_len_lst, b_len_tup, b_len_cdt, b_len_str, b_all, b_int_int, b_int_bl, b_int_str, b_str_int, b_str_str, b_isinst, b_list_lst, b_list_dct, b_tuple_lst, strK_str, m_sw, fk_sh, fk_fr, fk_ex, fl_ok, fl_ex, lfl_ok, lfl_ex, fc_b, fc_ex, seq_nx, seq_rt, seq_ex, seq_bk, seq_ct, ofFl_rt, ofFl_nx, ofFl_ex, turn_nx, turn_ct, turn_bk, turn_rt, turn_ex, it_lst, it_tup, it_str, it_rng1, it_rng2, it_enum, cmpR_eq c_ne_bl, cmpR_eq c_eq_bl, List.length_cons, List.length_nil, Nat.zero_add, Nat.reduceAdd, Nat.reduceLeDiff, BEq.rfl, clr, slots, Option.map, tgB, List.set_cons_zero, List.set_cons_succ, calR, toSl, Bool.false_eq_true, if_false, if_true, rtlR, frzL, frz1, List.foldl_cons, List.foldl_nil, owOf, ownK, lstK, appP, owS, raiR, tupR, lstR, Bool.not_true, Bool.not_false, nobF, ofF, ty_int0, ty_int1, ty_int2, ty_int3, ty_int4, is23_int, ty_str0, ty_str1, ty_str2, ty_str3, ty_str4, is23_str, ty_lst0, ty_lst1, ty_lst2, ty_lst3, ty_lst4, is23_lst, ty_tup0, ty_tup1, ty_tup2, ty_tup3, ty_tup4, is23_tup, ty_bl0, ty_bl1, ty_bl2, ty_bl3, ty_bl4, is23_bl, ty_non0, ty_non1, ty_non2, ty_non3, ty_non4, is23_non]
  | true =>
    simp -implicitDefEqProofs only [b18, execs, exec, ev, evs, evC, evP, execM, List.getElem?_cons_zero, List.getElem?_cons_succ, sl_sh, sl_ow, sl_sht, sl_owt, fin_f, fin_t, cons_sh, cons_fr, cons_bo, cons_ex, cons_ok_ex, lbind_ok, lbind_ex, bind_ok, bind_ex, cond_b, kp_sh, kp_fr, kp_ex, tru_bl, tru_ex, tru_lst, tru_str, ofB_some', ofV_some, ofO_some, nox_ok, chnR_eq c_le_int, cmpR_eq c_le_int, cmpR_eq c_lt_int, cmpR_eq c_ge_int, cmpR_eq c_gt_int, cmpR_eq c_eq_int, cmpR_eq c_ne_int, cmpR_eq c_eq_str, cmpR_eq c_ne_str, cmpR_eq c_in_sgn, cmpR_eq c_nin_sgn, cmpR_eq c_is_non, cmpR_eq c_isnot_non, b_len_lst, b_len_tup, b_len_cdt, b_len_str, b_all, b_int_int, b_int_bl, b_int_str, b_str_int, b_str_str, b_isinst, b_list_lst, b_list_dct, b_tuple_lst, strK_str, m_sw, fk_sh, fk_fr, fk_ex, fl_ok, fl_ex, lfl_ok, lfl_ex, fc_b, fc_ex, seq_nx, seq_rt, seq_ex, seq_bk, seq_ct, ofFl_rt, ofFl_nx, ofFl_ex, turn_nx, turn_ct, turn_bk, turn_rt, turn_ex, it_lst, it_tup, it_str, it_rng1, it_rng2, it_enum, cmpR_eq c_ne_bl, cmpR_eq c_eq_bl, List.length_cons, List.length_nil, Nat.zero_add, Nat.reduceAdd, Nat.reduceLeDiff, BEq.rfl, clr, slots, Option.map, tgB, List.set_cons_zero, List.set_cons_succ, calR, toSl, Bool.false_eq_true, if_false, if_true, rtlR, frzL, frz1, List.foldl_cons, List.foldl_nil, owOf, ownK, lstK, appP, owS, raiR, tupR, lstR, Bool.not_true, Bool.not_false, nobF, ofF, ty_int0, ty_int1, ty_int2, ty_int3, ty_int4, is23_int, ty_str0, ty_str1, ty_str2, ty_str3, ty_str4, is23_str, ty_lst0, ty_lst1, ty_lst2, ty_lst3, ty_lst4, is23_lst, ty_tup0, ty_tup1, ty_tup2, ty_tup3, ty_tup4, is23_tup, ty_bl0, ty_bl1, ty_bl2, ty_bl3, ty_bl4, is23_bl, ty_non0, ty_non1, ty_non2, ty_non3, ty_non4, is23_non, Bool.or_true, Bool.or_false, hn, inR_nat hl]
    rw [loop_true (e1 := fun i => [.sh (.tup xs), .sh (.tup xs), .sh (.int i)]) xs.length (fun i hi => by
      simp -implicitDefEqProofs only [execs, exec, ev, evs, evC, evP, execM, List.getElem?_cons_zero, List.getElem?_cons_succ, sl_sh, sl_ow, sl_sht, sl_owt, fin_f, fin_t, cons_sh, cons_fr, cons_bo, cons_ex, cons_ok_ex, lbind_ok, lbind_ex, bind_ok, bind_ex, cond_b, kp_sh, kp_fr, kp_ex, tru_bl, tru_ex, tru_lst, tru_str, ofB_some', ofV_some, ofO_some, nox_ok, chnR_eq c_le_int, cmpR_eq c_le_int, cmpR_eq c_lt_int, cmpR_eq c_ge_int, cmpR_eq c_gt_int, cmpR_eq c_eq_int, cmpR_eq c_ne_int, cmpR_eq c_eq_str, cmpR_eq c_ne_str, cmpR_eq c_in_sgn, cmpR_eq c_nin_sgn, cmpR_eq c_is_non, cmpR_eq c_isnot_non, b_len_lst, b_len_tup, b_len_cdt, b_len_str, b_all, b_int_int, b_int_bl, b_int_str, b_str_int, b_str_str, b_isinst, b_list_lst, b_list_dct, b_tuple_lst, strK_str, m_sw, fk_sh, fk_fr, fk_ex, fl_ok, fl_ex, lfl_ok, lfl_ex, fc_b, fc_ex, seq_nx, seq_rt, seq_ex, seq_bk, seq_ct, ofFl_rt, ofFl_nx, ofFl_ex, turn_nx, turn_ct, turn_bk, turn_rt, turn_ex, it_lst, it_tup, it_str, it_rng1, it_rng2, it_enum, cmpR_eq c_ne_bl, cmpR_eq c_eq_bl, List.length_cons, List.length_nil, Nat.zero_add, Nat.reduceAdd, Nat.reduceLeDiff, BEq.rfl, clr, slots, Option.map, tgB, List.set_cons_zero, List.set_cons_succ, calR, toSl, Bool.false_eq_true, if_false, if_true, rtlR, frzL, frz1, List.foldl_cons, List.foldl_nil, owOf, ownK, lstK, appP, owS, raiR, tupR, lstR, Bool.not_true, Bool.not_false, nobF, ofF, ty_int0, ty_int1, ty_int2, ty_int3, ty_int4, is23_int, ty_str0, ty_str1, ty_str2, ty_str3, ty_str4, is23_str, ty_lst0, ty_lst1, ty_lst2, ty_lst3, ty_lst4, is23_lst, ty_tup0, ty_tup1, ty_tup2, ty_tup3, ty_tup4, is23_tup, ty_bl0, ty_bl1, ty_bl2, ty_bl3, ty_bl4, is23_bl, ty_non0, ty_non1, ty_non2, ty_non3, ty_non4, is23_non, hloop _ (.inl rfl) i hi, List.getElem?_eq_getElem hi, h _ (List.getElem_mem hi)]) (fun i hi => by simp -implicitDefEqProofs only [execs, exec, ev, evs, evC, evP, execM, List.getElem?_cons_zero, List.getElem?_cons_succ, sl_sh, sl_ow, sl_sht, sl_owt, fin_f, fin_t, cons_sh, cons_fr, cons_bo, cons_ex, cons_ok_ex, lbind_ok, lbind_ex, bind_ok, bind_ex, cond_b, kp_sh, kp_fr, kp_ex, tru_bl, tru_ex, tru_lst, tru_str, ofB_some', ofV_some, ofO_some, nox_ok, chnR_eq c_le_int, cmpR_eq c_le_int, cmpR_eq c_lt_int, cmpR_eq c_ge_int, cmpR_eq c_gt_int, cmpR_eq c_eq_int, cmpR_eq c_ne_int, cmpR_eq c_eq_str, cmpR_eq c_ne_str, cmpR_eq c_in_sgn, cmpR_eq c_nin_sgn, cmpR_eq c_is_non, cmpR_eq c_isnot_non, b_len_lst, b_len_tup, b_len_cdt, b_len_str, b_all, b_int_int, b_int_bl, b_int_str, b_str_int, b_str_str, b_isinst, b_list_lst, b_list_dct, b_tuple_lst, strK_str, m_sw, fk_sh, fk_fr, fk_ex, fl_ok, fl_ex, lfl_ok, lfl_ex, fc_b, fc_ex, seq_nx, seq_rt, seq_ex, seq_bk, seq_ct, ofFl_rt, ofFl_nx, ofFl_ex, turn_nx, turn_ct, turn_bk, turn_rt, turn_ex, it_lst, it_tup, it_str, it_rng1, it_rng2, it_enum, cmpR_eq c_ne_bl, cmpR_eq c_eq_bl, List.length_cons, List.length_nil, Nat.zero_add, Nat.reduceAdd, Nat.reduceLeDiff, BEq.rfl, clr, slots, Option.map, tgB, List.set_cons_zero, List.set_cons_succ, calR, toSl, Bool.false_eq_true, if_false, if_true, rtlR, frzL, frz1, List.foldl_cons, List.foldl_nil, owOf, ownK, lstK, appP, owS, raiR, tupR, lstR, Bool.not_true, Bool.not_false, nobF, ofF, ty_int0, ty_int1, ty_int2, ty_int3, ty_int4, is23_int, ty_str0, ty_str1, ty_str2, ty_str3, ty_str4, is23_str, ty_lst0, ty_lst1, ty_lst2, ty_lst3, ty_lst4, is23_lst, ty_tup0, ty_tup1, ty_tup2, ty_tup3, ty_tup4, is23_tup, ty_bl0, ty_bl1, ty_bl2, ty_bl3, ty_bl4, is23_bl, ty_non0, ty_non1, ty_non2, ty_non3, ty_non4, is23_non])]
    simp -implicitDefEqProofs only [execs, exec, ev, evs, evC, evP, execM, List.getElem?_cons_zero, List.getElem?_cons_succ, sl_sh, sl_ow, sl_sht, sl_owt, fin_f, fin_t, cons_sh, cons_fr, cons_bo, cons_ex, cons_ok_ex, lbind_ok, lbind_ex, bind_ok, bind_ex, cond_b, kp_sh, kp_fr, kp_ex, tru_bl, tru_ex, tru_lst, tru_str, ofB_some', ofV_some, ofO_some, nox_ok, chnR_eq c_le_int, cmpR_eq c_le_int, cmpR_eq c_lt_int, cmpR_eq c_ge_int, cmpR_eq c_gt_int, cmpR_eq c_eq_int, cmpR_eq c_ne_int, cmpR_eq c_eq_str, cmpR_eq c_ne_str, cmpR_eq c_in_sgn, cmpR_eq c_nin_sgn, cmpR_eq c_is_non, cmpR_eq c_isnot_non, b_len_lst, b_len_tup, b_len_cdt, b_len_str, b_all, b_int_int, b_int_bl, b_int_str, b_str_int, b_str_str, b_isinst, b_list_lst, b_list_dct, b_tuple_lst, strK_str, m_sw, fk_sh, fk_fr, fk_ex, fl_ok, fl_ex, lfl_ok, lfl_ex, fc_b, fc_ex, seq_nx, seq_rt, seq_ex, seq_bk, seq_ct, ofFl_rt, ofFl_nx, ofFl_ex, turn_nx, turn_ct, turn_bk, turn_rt, turn_ex, it_lst, it_tup, it_str, it_rng1, it_rng2, it_enum, cmpR_eq c_ne_bl, cmpR_eq c_eq_bl, List.length_cons, List.length_nil, Nat.zero_add, Nat.reduceAdd, Nat.reduceLeDiff, BEq.rfl, clr, slots, Option.map, tgB, List.set_cons_zero, List.set_cons_succ, calR, toSl, Bool.false_eq_true, if_false, if_true, rtlR, frzL, frz1, List.foldl_cons, List.foldl_nil, owOf, ownK, lstK, appP, owS, raiR, tupR, lstR, Bool.not_true, Bool.not_false, nobF, ofF, ty_int0, ty_int1, ty_int2, ty_int3, ty_int4, is23_int, ty_str0, ty_str1, ty_str2, ty_str3, ty_str4, is23_str, ty_lst0, ty_lst1, ty_lst2, ty_lst3, ty_lst4, is23_lst, ty_tup0, ty_tup1, ty_tup2, ty_tup3, ty_tup4, is23_tup, ty_bl0, ty_bl1, ty_bl2, ty_bl3, ty_bl4, is23_bl, ty_non0, ty_non1, ty_non2, ty_non3, ty_non4, is23_non]
theorem f19 (d : Nat) (ss : List (List Nat)) (hl : ss.length ≤ LL) : callF P (d + 1) 19 [.lst (ss.map .str)] = match numsOf ss with | none => .ok .sh .non | some ns => .ok .fr (.lst (ns.map fun (n : Nat) => .int n)) := by
  rw [e19]
  simp -implicitDefEqProofs only [b19, execs, exec, ev, evs, evC, evP, execM, List.getElem?_cons_zero, List.getElem?_cons_succ, sl_sh, sl_ow, sl_sht, sl_owt, fin_f, fin_t, cons_sh, cons_fr, cons_bo, cons_ex, cons_ok_ex, lbind_ok, lbind_ex, bind_ok, bind_ex, cond_b, kp_sh, kp_fr, kp_ex, tru_bl, tru_ex, tru_lst, tru_str, ofB_some', ofV_some, ofO_some, nox_ok, chnR_eq c_le_int, cmpR_eq c_le_int, cmpR_eq c_lt_int, cmpR_eq c_ge_int, cmpR_eq c_gt_int, cmpR_eq c_eq_int, cmpR_eq c_ne_int, cmpR_eq c_eq_str, cmpR_eq c_ne_str, cmpR_eq c_in_sgn, cmpR_eq c_nin_sgn, cmpR_eq c_is_non, cmpR_eq c_isnot_non, b_len_lst, b_len_tup, b_len_cdt, b_len_str, b_all, b_int_int, b_int_bl, b_int_str, b_str_int, b_str_str, b_isinst, b_list_lst, b_list_dct, b_tuple_lst, strK_str, m_sw, fk_sh, fk_fr, fk_ex, fl_ok, fl_ex, lfl_ok, lfl_ex, fc_b, fc_ex, seq_nx, seq_rt, seq_ex, seq_bk, seq_ct, ofFl_rt, ofFl_nx, ofFl_ex, turn_nx, turn_ct, turn_bk, turn_rt, turn_ex, it_lst, it_tup, it_str, it_rng1, it_rng2, it_enum, cmpR_eq c_ne_bl, cmpR_eq c_eq_bl, List.length_cons, List.length_nil, Nat.zero_add, Nat.reduceAdd, Nat.reduceLeDiff, BEq.rfl, clr, slots, Option.map, tgB, List.set_cons_zero, List.set_cons_succ, calR, toSl, Bool.false_eq_true, if_false, if_true, rtlR, frzL, frz1, List.foldl_cons, List.foldl_nil, owOf, ownK, lstK, appP, owS, raiR, tupR, lstR, Bool.not_true, Bool.not_false, nobF, ofF, ty_int0, ty_int1, ty_int2, ty_int3, ty_int4, is23_int, ty_str0, ty_str1, ty_str2, ty_str3, ty_str4, is23_str, ty_lst0, ty_lst1, ty_lst2, ty_lst3, ty_lst4, is23_lst, ty_tup0, ty_tup1, ty_tup2, ty_tup3, ty_tup4, is23_tup, ty_bl0, ty_bl1, ty_bl2, ty_bl3, ty_bl4, is23_bl, ty_non0, ty_non1, ty_non2, ty_non3, ty_non4, is23_non]
  rw [for_nums (E := fun acc => [.sh (.lst (ss.map .str)), .ow (.lst acc), .un, .un]) (E1 := fun acc s => [.sh (.lst (ss.map .str)), .ow (.lst acc), .sh (.str s), .un]) (fun s acc ha => by
    simp -implicitDefEqProofs only [execs, exec, ev, evs, evC, evP, execM, List.getElem?_cons_zero, List.getElem?_cons_succ, sl_sh, sl_ow, sl_sht, sl_owt, fin_f, fin_t, cons_sh, cons_fr, cons_bo, cons_ex, cons_ok_ex, lbind_ok, lbind_ex, bind_ok, bind_ex, cond_b, kp_sh, kp_fr, kp_ex, tru_bl, tru_ex, tru_lst, tru_str, ofB_some', ofV_some, ofO_some, nox_ok, chnR_eq c_le_int, cmpR_eq c_le_int, cmpR_eq c_lt_int, cmpR_eq c_ge_int, cmpR_eq c_gt_int, cmpR_eq c_eq_int, cmpR_eq c_ne_int, cmpR_eq c_eq_str, cmpR_eq c_ne_str, cmpR_eq c_in_sgn, cmpR_eq c_nin_sgn, cmpR_eq c_is_non, cmpR_eq c_isnot_non, b_len_lst, b_len_tup, b_len_cdt, b_len_str, b_all, b_int_int, b_int_bl, b_int_str, b_str_int, b_str_str, b_isinst, b_list_lst, b_list_dct, b_tuple_lst, strK_str, m_sw, fk_sh, fk_fr, fk_ex, fl_ok, fl_ex, lfl_ok, lfl_ex, fc_b, fc_ex, seq_nx, seq_rt, seq_ex, seq_bk, seq_ct, ofFl_rt, ofFl_nx, ofFl_ex, turn_nx, turn_ct, turn_bk, turn_rt, turn_ex, it_lst, it_tup, it_str, it_rng1, it_rng2, it_enum, cmpR_eq c_ne_bl, cmpR_eq c_eq_bl, List.length_cons, List.length_nil, Nat.zero_add, Nat.reduceAdd, Nat.reduceLeDiff, BEq.rfl, clr, slots, Option.map, tgB, List.set_cons_zero, List.set_cons_succ, calR, toSl, Bool.false_eq_true, if_false, if_true, rtlR, frzL, frz1, List.foldl_cons, List.foldl_nil, owOf, ownK, lstK, appP, owS, raiR, tupR, lstR, Bool.not_true, Bool.not_false, nobF, ofF, ty_int0, ty_int1, ty_int2, ty_int3, ty_int4, is23_int, ty_str0, ty_str1, ty_str2, ty_str3, ty_str4, is23_str, ty_lst0, ty_lst1, ty_lst2, ty_lst3, ty_lst4, is23_lst, ty_tup0, ty_tup1, ty_tup2, ty_tup3, ty_tup4, is23_tup, ty_bl0, ty_bl1, ty_bl2, ty_bl3, ty_bl4, is23_bl, ty_non0, ty_non1, ty_non2, ty_non3, ty_non4, is23_non]
    rw [flt_sgn (p := fun c => !isFig c) s (fun c => by simp -implicitDefEqProofs only [execs, exec, ev, evs, evC, evP, execM, List.getElem?_cons_zero, List.getElem?_cons_succ, sl_sh, sl_ow, sl_sht, sl_owt, fin_f, fin_t, cons_sh, cons_fr, cons_bo, cons_ex, cons_ok_ex, lbind_ok, lbind_ex, bind_ok, bind_ex, cond_b, kp_sh, kp_fr, kp_ex, tru_bl, tru_ex, tru_lst, tru_str, ofB_some', ofV_some, ofO_some, nox_ok, chnR_eq c_le_int, cmpR_eq c_le_int, cmpR_eq c_lt_int, cmpR_eq c_ge_int, cmpR_eq c_gt_int, cmpR_eq c_eq_int, cmpR_eq c_ne_int, cmpR_eq c_eq_str, cmpR_eq c_ne_str, cmpR_eq c_in_sgn, cmpR_eq c_nin_sgn, cmpR_eq c_is_non, cmpR_eq c_isnot_non, b_len_lst, b_len_tup, b_len_cdt, b_len_str, b_all, b_int_int, b_int_bl, b_int_str, b_str_int, b_str_str, b_isinst, b_list_lst, b_list_dct, b_tuple_lst, strK_str, m_sw, fk_sh, fk_fr, fk_ex, fl_ok, fl_ex, lfl_ok, lfl_ex, fc_b, fc_ex, seq_nx, seq_rt, seq_ex, seq_bk, seq_ct, ofFl_rt, ofFl_nx, ofFl_ex, turn_nx, turn_ct, turn_bk, turn_rt, turn_ex, it_lst, it_tup, it_str, it_rng1, it_rng2, it_enum, cmpR_eq c_ne_bl, cmpR_eq c_eq_bl, List.length_cons, List.length_nil, Nat.zero_add, Nat.reduceAdd, Nat.reduceLeDiff, BEq.rfl, clr, slots, Option.map, tgB, List.set_cons_zero, List.set_cons_succ, calR, toSl, Bool.false_eq_true, if_false, if_true, rtlR, frzL, frz1, List.foldl_cons, List.foldl_nil, owOf, ownK, lstK, appP, owS, raiR, tupR, lstR, Bool.not_true, Bool.not_false, nobF, ofF, ty_int0, ty_int1, ty_int2, ty_int3, ty_int4, is23_int, ty_str0, ty_str1, ty_str2, ty_str3, ty_str4, is23_str, ty_lst0, ty_lst1, ty_lst2, ty_lst3, ty_lst4, is23_lst, ty_tup0, ty_tup1, ty_tup2, ty_tup3, ty_tup4, is23_tup, ty_bl0, ty_bl1, ty_bl2, ty_bl3, ty_bl4, is23_bl, ty_non0, ty_non1, ty_non2, ty_non3, ty_non4, is23_non, cmpR_eq c_nin_sgn, fig_eq]) (fun c => by simp -implicitDefEqProofs only [execs, exec, ev, evs, evC, evP, execM, List.getElem?_cons_zero, List.getElem?_cons_succ, sl_sh, sl_ow, sl_sht, sl_owt, fin_f, fin_t, cons_sh, cons_fr, cons_bo, cons_ex, cons_ok_ex, lbind_ok, lbind_ex, bind_ok, bind_ex, cond_b, kp_sh, kp_fr, kp_ex, tru_bl, tru_ex, tru_lst, tru_str, ofB_some', ofV_some, ofO_some, nox_ok, chnR_eq c_le_int, cmpR_eq c_le_int, cmpR_eq c_lt_int, cmpR_eq c_ge_int, cmpR_eq c_gt_int, cmpR_eq c_eq_int, cmpR_eq c_ne_int, cmpR_eq c_eq_str, cmpR_eq c_ne_str, cmpR_eq c_in_sgn, cmpR_eq c_nin_sgn, cmpR_eq c_is_non, cmpR_eq c_isnot_non, b_len_lst, b_len_tup, b_len_cdt, b_len_str, b_all, b_int_int, b_int_bl, b_int_str, b_str_int, b_str_str, b_isinst, b_list_lst, b_list_dct, b_tuple_lst, strK_str, m_sw, fk_sh, fk_fr, fk_ex, fl_ok, fl_ex, lfl_ok, lfl_ex, fc_b, fc_ex, seq_nx, seq_rt, seq_ex, seq_bk, seq_ct, ofFl_rt, ofFl_nx, ofFl_ex, turn_nx, turn_ct, turn_bk, turn_rt, turn_ex, it_lst, it_tup, it_str, it_rng1, it_rng2, it_enum, cmpR_eq c_ne_bl, cmpR_eq c_eq_bl, List.length_cons, List.length_nil, Nat.zero_add, Nat.reduceAdd, Nat.reduceLeDiff, BEq.rfl, clr, slots, Option.map, tgB, List.set_cons_zero, List.set_cons_succ, calR, toSl, Bool.false_eq_true, if_false, if_true, rtlR, frzL, frz1, List.foldl_cons, List.foldl_nil, owOf, ownK, lstK, appP, owS, raiR, tupR, lstR, Bool.not_true, Bool.not_false, nobF, ofF, ty_int0, ty_int1, ty_int2, ty_int3, ty_int4, is23_int, ty_str0, ty_str1, ty_str2, ty_str3, ty_str4, is23_str, ty_lst0, ty_lst1, ty_lst2, ty_lst3, ty_lst4, is23_lst, ty_tup0, ty_tup1, ty_tup2, ty_tup3, ty_tup4, is23_tup, ty_bl0, ty_bl1, ty_bl2, ty_bl3, ty_bl4, is23_bl, ty_non0, ty_non1, ty_non2, ty_non3, ty_non4, is23_non])]
    simp -implicitDefEqProofs only [execs, exec, ev, evs, evC, evP, execM, List.getElem?_cons_zero, List.getElem?_cons_succ, sl_sh, sl_ow, sl_sht, sl_owt, fin_f, fin_t, cons_sh, cons_fr, cons_bo, cons_ex, cons_ok_ex, lbind_ok, lbind_ex, bind_ok, bind_ex, cond_b, kp_sh, kp_fr, kp_ex, tru_bl, tru_ex, tru_lst, tru_str, ofB_some', ofV_some, ofO_some, nox_ok, chnR_eq c_le_int, cmpR_eq c_le_int, cmpR_eq c_lt_int, cmpR_eq c_ge_int, cmpR_eq c_gt_int, cmpR_eq c_eq_int, cmpR_eq c_ne_int, cmpR_eq c_eq_str, cmpR_eq c_ne_str, cmpR_eq c_in_sgn, cmpR_eq c_nin_sgn, cmpR_eq c_is_non, cmpR_eq c_isnot_non, b_len_lst, b_len_tup, b_len_cdt, b_len_str, b_all, b_int_int, b_int_bl, b_int_str, b_str_int, b_str_str, b_isinst, b_list_lst, b_list_dct, b_tuple_lst, strK_str, m_sw, fk_sh, fk_fr, fk_ex, fl_ok, fl_ex, lfl_ok, lfl_ex, fc_b, fc_ex, seq_nx, seq_rt, seq_ex, seq_bk, seq_ct, ofFl_rt, ofFl_nx, ofFl_ex, turn_nx, turn_ct, turn_bk, turn_rt, turn_ex, it_lst, it_tup, it_str, it_rng1, it_rng2, it_enum, cmpR_eq c_ne_bl, cmpR_eq c_eq_bl, List.length_cons, List.length_nil, Nat.zero_add, Nat.reduceAdd, Nat.reduceLeDiff, BEq.rfl, clr, slots, Option.map, tgB, List.set_cons_zero, List.set_cons_succ, calR, toSl, Bool.false_eq_true, if_false, if_true, rtlR, frzL, frz1, List.foldl_cons, List.foldl_nil, owOf, ownK, lstK, appP, owS, raiR, tupR, lstR, Bool.not_true, Bool.not_false, nobF, ofF, ty_int0, ty_int1, ty_int2, ty_int3, ty_int4, is23_int, ty_str0, ty_str1, ty_str2, ty_str3, ty_str4, is23_str, ty_lst0, ty_lst1, ty_lst2, ty_lst3, ty_lst4, is23_lst, ty_tup0, ty_tup1, ty_tup2, ty_tup3, ty_tup4, is23_tup, ty_bl0, ty_bl1, ty_bl2, ty_bl3, ty_bl4, is23_bl, ty_non0, ty_non1, ty_non2, ty_non3, ty_non4, is23_non, List.isEmpty_map, flt_all, bad_num]
    cases s with
    | nil => rfl
    | cons c r =>
      have h0 : ((c :: r) == []) = false := rfl
      have h9 : atP (c :: r) 0 = some c := by rw [show (0 : Int) = ((0 : Nat) : Int) from rfl, atP_nat _ 0 (by simp)]; rfl
      simp -implicitDefEqProofs only [execs, exec, ev, evs, evC, evP, execM, List.getElem?_cons_zero, List.getElem?_cons_succ, sl_sh, sl_ow, sl_sht, sl_owt, fin_f, fin_t, cons_sh, cons_fr, cons_bo, cons_ex, cons_ok_ex, lbind_ok, lbind_ex, bind_ok, bind_ex, cond_b, kp_sh, kp_fr, kp_ex, tru_bl, tru_ex, tru_lst, tru_str, ofB_some', ofV_some, ofO_some, nox_ok, chnR_eq c_le_int, cmpR_eq c_le_int, cmpR_eq c_lt_int, cmpR_eq c_ge_int, cmpR_eq c_gt_int, cmpR_eq c_eq_int, cmpR_eq c_ne_int, cmpR_eq c_eq_str, cmpR_eq c_ne_str, cmpR_eq c_in_sgn, cmpR_eq c_nin_sgn, cmpR_eq c_is_non, cmpR_eq c_isnot_non, b_len_lst, b_len_tup, b_len_cdt, b_len_str, b_all, b_int_int, b_int_bl, b_int_str, b_str_int, b_str_str, b_isinst, b_list_lst, b_list_dct, b_tuple_lst, strK_str, m_sw, fk_sh, fk_fr, fk_ex, fl_ok, fl_ex, lfl_ok, lfl_ex, fc_b, fc_ex, seq_nx, seq_rt, seq_ex, seq_bk, seq_ct, ofFl_rt, ofFl_nx, ofFl_ex, turn_nx, turn_ct, turn_bk, turn_rt, turn_ex, it_lst, it_tup, it_str, it_rng1, it_rng2, it_enum, cmpR_eq c_ne_bl, cmpR_eq c_eq_bl, List.length_cons, List.length_nil, Nat.zero_add, Nat.reduceAdd, Nat.reduceLeDiff, BEq.rfl, clr, slots, Option.map, tgB, List.set_cons_zero, List.set_cons_succ, calR, toSl, Bool.false_eq_true, if_false, if_true, rtlR, frzL, frz1, List.foldl_cons, List.foldl_nil, owOf, ownK, lstK, appP, owS, raiR, tupR, lstR, Bool.not_true, Bool.not_false, nobF, ofF, ty_int0, ty_int1, ty_int2, ty_int3, ty_int4, is23_int, ty_str0, ty_str1, ty_str2, ty_str3, ty_str4, is23_str, ty_lst0, ty_lst1, ty_lst2, ty_lst3, ty_lst4, is23_lst, ty_tup0, ty_tup1, ty_tup2, ty_tup3, ty_tup4, is23_tup, ty_bl0, ty_bl1, ty_bl2, ty_bl3, ty_bl4, is23_bl, ty_non0, ty_non1, ty_non2, ty_non3, ty_non4, is23_non, h0, subP, h9, Option.map]
      by_cases h2 : 18 < r.length + 1
      · have h2' : (18 : Int) < ((r.length + 1 : Nat) : Int) := by omega
        rw [if_pos (Or.inr (Or.inl h2))]
        simp -implicitDefEqProofs only [execs, exec, ev, evs, evC, evP, execM, List.getElem?_cons_zero, List.getElem?_cons_succ, sl_sh, sl_ow, sl_sht, sl_owt, fin_f, fin_t, cons_sh, cons_fr, cons_bo, cons_ex, cons_ok_ex, lbind_ok, lbind_ex, bind_ok, bind_ex, cond_b, kp_sh, kp_fr, kp_ex, tru_bl, tru_ex, tru_lst, tru_str, ofB_some', ofV_some, ofO_some, nox_ok, chnR_eq c_le_int, cmpR_eq c_le_int, cmpR_eq c_lt_int, cmpR_eq c_ge_int, cmpR_eq c_gt_int, cmpR_eq c_eq_int, cmpR_eq c_ne_int, cmpR_eq c_eq_str, cmpR_eq c_ne_str, cmpR_eq c_in_sgn, cmpR_eq c_nin_sgn, cmpR_eq c_is_non, cmpR_eq c_isnot_non, b_len_lst, b_len_tup, b_len_cdt, b_len_str, b_all, b_int_int, b_int_bl, b_int_str, b_str_int, b_str_str, b_isinst, b_list_lst, b_list_dct, b_tuple_lst, strK_str, m_sw, fk_sh, fk_fr, fk_ex, fl_ok, fl_ex, lfl_ok, lfl_ex, fc_b, fc_ex, seq_nx, seq_rt, seq_ex, seq_bk, seq_ct, ofFl_rt, ofFl_nx, ofFl_ex, turn_nx, turn_ct, turn_bk, turn_rt, turn_ex, it_lst, it_tup, it_str, it_rng1, it_rng2, it_enum, cmpR_eq c_ne_bl, cmpR_eq c_eq_bl, List.length_cons, List.length_nil, Nat.zero_add, Nat.reduceAdd, Nat.reduceLeDiff, BEq.rfl, clr, slots, Option.map, tgB, List.set_cons_zero, List.set_cons_succ, calR, toSl, Bool.false_eq_true, if_false, if_true, rtlR, frzL, frz1, List.foldl_cons, List.foldl_nil, owOf, ownK, lstK, appP, owS, raiR, tupR, lstR, Bool.not_true, Bool.not_false, nobF, ofF, ty_int0, ty_int1, ty_int2, ty_int3, ty_int4, is23_int, ty_str0, ty_str1, ty_str2, ty_str3, ty_str4, is23_str, ty_lst0, ty_lst1, ty_lst2, ty_lst3, ty_lst4, is23_lst, ty_tup0, ty_tup1, ty_tup2, ty_tup3, ty_tup4, is23_tup, ty_bl0, ty_bl1, ty_bl2, ty_bl3, ty_bl4, is23_bl, ty_non0, ty_non1, ty_non2, ty_non3, ty_non4, is23_non, h2', decide_true]
      · have h2' : ¬ (18 : Int) < ((r.length + 1 : Nat) : Int) := by omega
        cases h3 : (c :: r).all isFig with
        | false =>
          rw [if_pos (Or.inr (Or.inr (Or.inl rfl)))]
          simp -implicitDefEqProofs only [execs, exec, ev, evs, evC, evP, execM, List.getElem?_cons_zero, List.getElem?_cons_succ, sl_sh, sl_ow, sl_sht, sl_owt, fin_f, fin_t, cons_sh, cons_fr, cons_bo, cons_ex, cons_ok_ex, lbind_ok, lbind_ex, bind_ok, bind_ex, cond_b, kp_sh, kp_fr, kp_ex, tru_bl, tru_ex, tru_lst, tru_str, ofB_some', ofV_some, ofO_some, nox_ok, chnR_eq c_le_int, cmpR_eq c_le_int, cmpR_eq c_lt_int, cmpR_eq c_ge_int, cmpR_eq c_gt_int, cmpR_eq c_eq_int, cmpR_eq c_ne_int, cmpR_eq c_eq_str, cmpR_eq c_ne_str, cmpR_eq c_in_sgn, cmpR_eq c_nin_sgn, cmpR_eq c_is_non, cmpR_eq c_isnot_non, b_len_lst, b_len_tup, b_len_cdt, b_len_str, b_all, b_int_int, b_int_bl, b_int_str, b_str_int, b_str_str, b_isinst, b_list_lst, b_list_dct, b_tuple_lst, strK_str, m_sw, fk_sh, fk_fr, fk_ex, fl_ok, fl_ex, lfl_ok, lfl_ex, fc_b, fc_ex, seq_nx, seq_rt, seq_ex, seq_bk, seq_ct, ofFl_rt, ofFl_nx, ofFl_ex, turn_nx, turn_ct, turn_bk, turn_rt, turn_ex, it_lst, it_tup, it_str, it_rng1, it_rng2, it_enum, cmpR_eq c_ne_bl, cmpR_eq c_eq_bl, List.length_cons, List.length_nil, Nat.zero_add, Nat.reduceAdd, Nat.reduceLeDiff, BEq.rfl, clr, slots, Option.map, tgB, List.set_cons_zero, List.set_cons_succ, calR, toSl, Bool.false_eq_true, if_false, if_true, rtlR, frzL, frz1, List.foldl_cons, List.foldl_nil, owOf, ownK, lstK, appP, owS, raiR, tupR, lstR, Bool.not_true, Bool.not_false, nobF, ofF, ty_int0, ty_int1, ty_int2, ty_int3, ty_int4, is23_int, ty_str0, ty_str1, ty_str2, ty_str3, ty_str4, is23_str, ty_lst0, ty_lst1, ty_lst2, ty_lst3, ty_lst4, is23_lst, ty_tup0, ty_tup1, ty_tup2, ty_tup3, ty_tup4, is23_tup, ty_bl0, ty_bl1, ty_bl2, ty_bl3, ty_bl4, is23_bl, ty_non0, ty_non1, ty_non2, ty_non3, ty_non4, is23_non, h2', decide_false]
        | true =>
          have hi : ((c :: r).all isFig && decide (0 < (c :: r).length) && decide ((c :: r).length ≤ 600)) = true := by
            simp -implicitDefEqProofs only [Bool.and_eq_true, decide_eq_true_eq, List.length_cons]
            exact ⟨⟨h3, by omega⟩, by omega⟩
          by_cases h4 : c = 48 ∧ c :: r ≠ [48]
          · obtain ⟨h4, h5⟩ := h4
            subst h4
            have h5' : ((48 :: r) == [48]) = false := by simpa using h5
            rw [if_pos (Or.inr (Or.inr (Or.inr ⟨rfl, h5⟩)))]
            simp -implicitDefEqProofs only [execs, exec, ev, evs, evC, evP, execM, List.getElem?_cons_zero, List.getElem?_cons_succ, sl_sh, sl_ow, sl_sht, sl_owt, fin_f, fin_t, cons_sh, cons_fr, cons_bo, cons_ex, cons_ok_ex, lbind_ok, lbind_ex, bind_ok, bind_ex, cond_b, kp_sh, kp_fr, kp_ex, tru_bl, tru_ex, tru_lst, tru_str, ofB_some', ofV_some, ofO_some, nox_ok, chnR_eq c_le_int, cmpR_eq c_le_int, cmpR_eq c_lt_int, cmpR_eq c_ge_int, cmpR_eq c_gt_int, cmpR_eq c_eq_int, cmpR_eq c_ne_int, cmpR_eq c_eq_str, cmpR_eq c_ne_str, cmpR_eq c_in_sgn, cmpR_eq c_nin_sgn, cmpR_eq c_is_non, cmpR_eq c_isnot_non, b_len_lst, b_len_tup, b_len_cdt, b_len_str, b_all, b_int_int, b_int_bl, b_int_str, b_str_int, b_str_str, b_isinst, b_list_lst, b_list_dct, b_tuple_lst, strK_str, m_sw, fk_sh, fk_fr, fk_ex, fl_ok, fl_ex, lfl_ok, lfl_ex, fc_b, fc_ex, seq_nx, seq_rt, seq_ex, seq_bk, seq_ct, ofFl_rt, ofFl_nx, ofFl_ex, turn_nx, turn_ct, turn_bk, turn_rt, turn_ex, it_lst, it_tup, it_str, it_rng1, it_rng2, it_enum, cmpR_eq c_ne_bl, cmpR_eq c_eq_bl, List.length_cons, List.length_nil, Nat.zero_add, Nat.reduceAdd, Nat.reduceLeDiff, BEq.rfl, clr, slots, Option.map, tgB, List.set_cons_zero, List.set_cons_succ, calR, toSl, Bool.false_eq_true, if_false, if_true, rtlR, frzL, frz1, List.foldl_cons, List.foldl_nil, owOf, ownK, lstK, appP, owS, raiR, tupR, lstR, Bool.not_true, Bool.not_false, nobF, ofF, ty_int0, ty_int1, ty_int2, ty_int3, ty_int4, is23_int, ty_str0, ty_str1, ty_str2, ty_str3, ty_str4, is23_str, ty_lst0, ty_lst1, ty_lst2, ty_lst3, ty_lst4, is23_lst, ty_tup0, ty_tup1, ty_tup2, ty_tup3, ty_tup4, is23_tup, ty_bl0, ty_bl1, ty_bl2, ty_bl3, ty_bl4, is23_bl, ty_non0, ty_non1, ty_non2, ty_non3, ty_non4, is23_non, h2', decide_false, h5']
          · have hneg : ¬ (c :: r = [] ∨ 18 < r.length + 1 ∨ true = false ∨ some c = some 48 ∧ c :: r ≠ [48]) := by
              rintro (h | h | h | ⟨h, h'⟩)
              · cases h
              · exact h2 h
              · cases h
              · exact h4 ⟨by simpa using h, h'⟩
            rw [if_neg hneg]
            have hq : ([c] == [48]) = false ∨ ((c :: r) == [48]) = true := by
              by_cases h5 : c = 48
              · right
                subst h5
                simp at h4
                simp [h4]
              · left
                simpa using h5
            have hi' : ((c :: r).all isFig && decide (0 < r.length + 1) && decide (r.length ≤ 599)) = true := by
              simp -implicitDefEqProofs only [Bool.and_eq_true, decide_eq_true_eq]
              exact ⟨⟨h3, by omega⟩, by omega⟩
            rcases hq with hq | hq
            · simp -implicitDefEqProofs only [execs, exec, ev, evs, evC, evP, execM, List.getElem?_cons_zero, List.getElem?_cons_succ, sl_sh, sl_ow, sl_sht, sl_owt, fin_f, fin_t, cons_sh, cons_fr, cons_bo, cons_ex, cons_ok_ex, lbind_ok, lbind_ex, bind_ok, bind_ex, cond_b, kp_sh, kp_fr, kp_ex, tru_bl, tru_ex, tru_lst, tru_str, ofB_some', ofV_some, ofO_some, nox_ok, chnR_eq c_le_int, cmpR_eq c_le_int, cmpR_eq c_lt_int, cmpR_eq c_ge_int, cmpR_eq c_gt_int, cmpR_eq c_eq_int, cmpR_eq c_ne_int, cmpR_eq c_eq_str, cmpR_eq c_ne_str, cmpR_eq c_in_sgn, cmpR_eq c_nin_sgn, cmpR_eq c_is_non, cmpR_eq c_isnot_non, b_len_lst, b_len_tup, b_len_cdt, b_len_str, b_all, b_int_int, b_int_bl, b_int_str, b_str_int, b_str_str, b_isinst, b_list_lst, b_list_dct, b_tuple_lst, strK_str, m_sw, fk_sh, fk_fr, fk_ex, fl_ok, fl_ex, lfl_ok, lfl_ex, fc_b, fc_ex, seq_nx, seq_rt, seq_ex, seq_bk, seq_ct, ofFl_rt, ofFl_nx, ofFl_ex, turn_nx, turn_ct, turn_bk, turn_rt, turn_ex, it_lst, it_tup, it_str, it_rng1, it_rng2, it_enum, cmpR_eq c_ne_bl, cmpR_eq c_eq_bl, List.length_cons, List.length_nil, Nat.zero_add, Nat.reduceAdd, Nat.reduceLeDiff, BEq.rfl, clr, slots, Option.map, tgB, List.set_cons_zero, List.set_cons_succ, calR, toSl, Bool.false_eq_true, if_false, if_true, rtlR, frzL, frz1, List.foldl_cons, List.foldl_nil, owOf, ownK, lstK, appP, owS, raiR, tupR, lstR, Bool.not_true, Bool.not_false, nobF, ofF, ty_int0, ty_int1, ty_int2, ty_int3, ty_int4, is23_int, ty_str0, ty_str1, ty_str2, ty_str3, ty_str4, is23_str, ty_lst0, ty_lst1, ty_lst2, ty_lst3, ty_lst4, is23_lst, ty_tup0, ty_tup1, ty_tup2, ty_tup3, ty_tup4, is23_tup, ty_bl0, ty_bl1, ty_bl2, ty_bl3, ty_bl4, is23_bl, ty_non0, ty_non1, ty_non2, ty_non3, ty_non4, is23_non, h2', decide_false, hq, hi, hi', ha, Fl.seq]
            · cases hc : ([c] == [48]) <;> simp -implicitDefEqProofs only [execs, exec, ev, evs, evC, evP, execM, List.getElem?_cons_zero, List.getElem?_cons_succ, sl_sh, sl_ow, sl_sht, sl_owt, fin_f, fin_t, cons_sh, cons_fr, cons_bo, cons_ex, cons_ok_ex, lbind_ok, lbind_ex, bind_ok, bind_ex, cond_b, kp_sh, kp_fr, kp_ex, tru_bl, tru_ex, tru_lst, tru_str, ofB_some', ofV_some, ofO_some, nox_ok, chnR_eq c_le_int, cmpR_eq c_le_int, cmpR_eq c_lt_int, cmpR_eq c_ge_int, cmpR_eq c_gt_int, cmpR_eq c_eq_int, cmpR_eq c_ne_int, cmpR_eq c_eq_str, cmpR_eq c_ne_str, cmpR_eq c_in_sgn, cmpR_eq c_nin_sgn, cmpR_eq c_is_non, cmpR_eq c_isnot_non, b_len_lst, b_len_tup, b_len_cdt, b_len_str, b_all, b_int_int, b_int_bl, b_int_str, b_str_int, b_str_str, b_isinst, b_list_lst, b_list_dct, b_tuple_lst, strK_str, m_sw, fk_sh, fk_fr, fk_ex, fl_ok, fl_ex, lfl_ok, lfl_ex, fc_b, fc_ex, seq_nx, seq_rt, seq_ex, seq_bk, seq_ct, ofFl_rt, ofFl_nx, ofFl_ex, turn_nx, turn_ct, turn_bk, turn_rt, turn_ex, it_lst, it_tup, it_str, it_rng1, it_rng2, it_enum, cmpR_eq c_ne_bl, cmpR_eq c_eq_bl, List.length_cons, List.length_nil, Nat.zero_add, Nat.reduceAdd, Nat.reduceLeDiff, BEq.rfl, clr, slots, Option.map, tgB, List.set_cons_zero, List.set_cons_succ, calR, toSl, Bool.false_eq_true, if_false, if_true, rtlR, frzL, frz1, List.foldl_cons, List.foldl_nil, owOf, ownK, lstK, appP, owS, raiR, tupR, lstR, Bool.not_true, Bool.not_false, nobF, ofF, ty_int0, ty_int1, ty_int2, ty_int3, ty_int4, is23_int, ty_str0, ty_str1, ty_str2, ty_str3, ty_str4, is23_str, ty_lst0, ty_lst1, ty_lst2, ty_lst3, ty_lst4, is23_lst, ty_tup0, ty_tup1, ty_tup2, ty_tup3, ty_tup4, is23_tup, ty_bl0, ty_bl1, ty_bl2, ty_bl3, ty_bl4, is23_bl, ty_non0, ty_non1, ty_non2, ty_non3, ty_non4, is23_non, h2', decide_false, hq, hc, hi, hi', ha]) (fun acc s => by simp -implicitDefEqProofs only [execs, exec, ev, evs, evC, evP, execM, List.getElem?_cons_zero, List.getElem?_cons_succ, sl_sh, sl_ow, sl_sht, sl_owt, fin_f, fin_t, cons_sh, cons_fr, cons_bo, cons_ex, cons_ok_ex, lbind_ok, lbind_ex, bind_ok, bind_ex, cond_b, kp_sh, kp_fr, kp_ex, tru_bl, tru_ex, tru_lst, tru_str, ofB_some', ofV_some, ofO_some, nox_ok, chnR_eq c_le_int, cmpR_eq c_le_int, cmpR_eq c_lt_int, cmpR_eq c_ge_int, cmpR_eq c_gt_int, cmpR_eq c_eq_int, cmpR_eq c_ne_int, cmpR_eq c_eq_str, cmpR_eq c_ne_str, cmpR_eq c_in_sgn, cmpR_eq c_nin_sgn, cmpR_eq c_is_non, cmpR_eq c_isnot_non, b_len_lst, b_len_tup, b_len_cdt, b_len_str, b_all, b_int_int, b_int_bl, b_int_str, b_str_int, b_str_str, b_isinst, b_list_lst, b_list_dct, b_tuple_lst, strK_str, m_sw, fk_sh, fk_fr, fk_ex, fl_ok, fl_ex, lfl_ok, lfl_ex, fc_b, fc_ex, seq_nx, seq_rt, seq_ex, seq_bk, seq_ct, ofFl_rt, ofFl_nx, ofFl_ex, turn_nx, turn_ct, turn_bk, turn_rt, turn_ex, it_lst, it_tup, it_str, it_rng1, it_rng2, it_enum, cmpR_eq c_ne_bl, cmpR_eq c_eq_bl, List.length_cons, List.length_nil, Nat.zero_add, Nat.reduceAdd, Nat.reduceLeDiff, BEq.rfl, clr, slots, Option.map, tgB, List.set_cons_zero, List.set_cons_succ, calR, toSl, Bool.false_eq_true, if_false, if_true, rtlR, frzL, frz1, List.foldl_cons, List.foldl_nil, owOf, ownK, lstK, appP, owS, raiR, tupR, lstR, Bool.not_true, Bool.not_false, nobF, ofF, ty_int0, ty_int1, ty_int2, ty_int3, ty_int4, is23_int, ty_str0, ty_str1, ty_str2, ty_str3, ty_str4, is23_str, ty_lst0, ty_lst1, ty_lst2, ty_lst3, ty_lst4, is23_lst, ty_tup0, ty_tup1, ty_tup2, ty_tup3, ty_tup4, is23_tup, ty_bl0, ty_bl1, ty_bl2, ty_bl3, ty_bl4, is23_bl, ty_non0, ty_non1, ty_non2, ty_non3, ty_non4, is23_non]) ss [] (by simpa using hl)]
  cases numsOf ss <;> simp -implicitDefEqProofs only [execs, exec, ev, evs, evC, evP, execM, List.getElem?_cons_zero, List.getElem?_cons_succ, sl_sh, sl_ow, sl_sht, sl_owt, fin_f, fin_t, cons_sh, cons_fr, cons_bo, cons_ex, cons_ok_ex, lbind_ok, lbind_ex, bind_ok, bind_ex, cond_b, kp_sh, kp_fr, kp_ex, tru_bl, tru_ex, tru_lst, tru_str, ofB_some', ofV_some, ofO_some, nox_ok, chnR_eq c_le_int, cmpR_eq c_le_int, cmpR_eq c_lt_int, cmpR_eq c_ge_int, cmpR_eq c_gt_int, cmpR_eq c_eq_int, cmpR_eq c_ne_int, cmpR_eq c_eq_str, cmpR_eq c_ne_str, cmpR_eq c_in_sgn, cmpR_eq c_nin_sgn, cmpR_eq c_is_non, cmpR_eq c_isnot_non, b_len_lst, b_len_tup, b_len_cdt, b_len_str, b_all, b_int_int, b_int_bl, b_int_str, b_str_int, b_str_str, b_isinst, b_list_lst, b_list_dct, b_tuple_lst, strK_str, m_sw, fk_sh, fk_fr, fk_ex, fl_ok, fl_ex, lfl_ok, lfl_ex, fc_b, fc_ex, seq_nx, seq_rt, seq_ex, seq_bk, seq_ct, ofFl_rt, ofFl_nx, ofFl_ex, turn_nx, turn_ct, turn_bk, turn_rt, turn_ex, it_lst, it_tup, it_str, it_rng1, it_rng2, it_enum, cmpR_eq c_ne_bl, cmpR_eq c_eq_bl, List.length_cons, List.length_nil, Nat.zero_add, Nat.reduceAdd, Nat.reduceLeDiff, BEq.rfl, clr, slots, Option.map, tgB, List.set_cons_zero, List.set_cons_succ, calR, toSl, Bool.false_eq_true, if_false, if_true, rtlR, frzL, frz1, List.foldl_cons, List.foldl_nil, owOf, ownK, lstK, appP, owS, raiR, tupR, lstR, Bool.not_true, Bool.not_false, nobF, ofF, ty_int0, ty_int1, ty_int2, ty_int3, ty_int4, is23_int, ty_str0, ty_str1, ty_str2, ty_str3, ty_str4, is23_str, ty_lst0, ty_lst1, ty_lst2, ty_lst3, ty_lst4, is23_lst, ty_tup0, ty_tup1, ty_tup2, ty_tup3, ty_tup4, is23_tup, ty_bl0, ty_bl1, ty_bl2, ty_bl3, ty_bl4, is23_bl, ty_non0, ty_non1, ty_non2, ty_non3, ty_non4, is23_non, List.nil_append]
end Wk81
set_option Elab.async false
set_option linter.all false
set_option maxRecDepth 100000
set_option maxHeartbeats 2000000
namespace Wk81
open EV
def bLoop : Ss := (.cons (.ifs (.cmp .ge (.loc 3) (.bin .pow (.cst (.int 10)) (.cst (.int 18)))) (.cons (.app 4 (.bin .mod (.loc 3) (.cst (.int 1009))))
 (.cons (.set 3 (.bin .fdiv (.loc 3) (.cst (.int 1009))))
 .nil)) (.cons (.set 6 (.bin .mod (.bin .add (.bin .add (.bin .mul (.loc 3) (.cst (.int 48271))) (.bin .mul (.bin .add (.loc 5) (.cst (.int 1))) (.cst (.int 69621)))) (.bin .mul (.loc 1) (.cst (.int 4001)))) (.cst (.int 2147483647))))
 (.cons (.set 6 (.bin .mod (.bin .add (.bin .mul (.loc 6) (.loc 6)) (.bin .mul (.cst (.int 16807)) (.bin .add (.loc 5) (.cst (.int 3))))) (.cst (.int 2147483629))))
 (.cons (.app 4 (.bin .mod (.bin .fdiv (.loc 6) (.cst (.int 7))) (.cst (.int 1009))))
 .nil))))
 .nil)
theorem numStep1 (X : EC) (v s : PV) (a n x k : Int) (acc : List PV) (hl : acc.length < LL) (hc : 1000000000000000000 ≤ x) : execs X bLoop [.sh v, .sh (.int a), .sh (.int n), .sh (.int x), .ow (.lst acc), .sh (.int k), .un] = .nx [.sh v, .sh (.int a), .sh (.int n), .sh (.int (x / 1009)), .ow (.lst (acc ++ [.int (x % 1009)])), .sh (.int k), .un] := by
  have hc' : decide (1000000000000000000 ≤ x) = true := decide_eq_true hc
  have e1 : binP .mod (.int x) (.int 1009) = .ok .sh (.int (x % 1009)) := modx (by decide)
  have e2 : binP .fdiv (.int x) (.int 1009) = .ok .sh (.int (x / 1009)) := divx (by decide)
  simp -implicitDefEqProofs only [bLoop, execs, exec, ev, evs, evC, evP, execM, List.getElem?_cons_zero, List.getElem?_cons_succ, sl_sh, sl_ow, sl_sht, sl_owt, fin_f, fin_t, cons_sh, cons_fr, cons_bo, cons_ex, cons_ok_ex, lbind_ok, lbind_ex, bind_ok, bind_ex, cond_b, kp_sh, kp_fr, kp_ex, tru_bl, tru_ex, tru_lst, tru_str, ofB_some', ofV_some, ofO_some, nox_ok, chnR_eq c_le_int, cmpR_eq c_le_int, cmpR_eq c_lt_int, cmpR_eq c_ge_int, cmpR_eq c_gt_int, cmpR_eq c_eq_int, cmpR_eq c_ne_int, cmpR_eq c_eq_str, cmpR_eq c_ne_str, cmpR_eq c_in_sgn, cmpR_eq c_nin_sgn, cmpR_eq c_is_non, cmpR_eq c_isnot_non, b_len_lst, b_len_tup, b_len_cdt, b_len_str, b_all, b_int_int, b_int_bl, b_int_str, b_str_int, b_str_str, b_isinst, b_list_lst, b_list_dct, b_tuple_lst, strK_str, m_sw, fk_sh, fk_fr, fk_ex, fl_ok, fl_ex, lfl_ok, lfl_ex, fc_b, fc_ex, seq_nx, seq_rt, seq_ex, seq_bk, seq_ct, ofFl_rt, ofFl_nx, ofFl_ex, turn_nx, turn_ct, turn_bk, turn_rt, turn_ex, it_lst, it_tup, it_str, it_rng1, it_rng2, it_enum, cmpR_eq c_ne_bl, cmpR_eq c_eq_bl, List.length_cons, List.length_nil, Nat.zero_add, Nat.reduceAdd, Nat.reduceLeDiff, BEq.rfl, clr, slots, Option.map, tgB, List.set_cons_zero, List.set_cons_succ, calR, toSl, Bool.false_eq_true, if_false, if_true, rtlR, frzL, frz1, List.foldl_cons, List.foldl_nil, owOf, ownK, lstK, appP, owS, raiR, tupR, lstR, Bool.not_true, Bool.not_false, nobF, ofF, ty_int0, ty_int1, ty_int2, ty_int3, ty_int4, is23_int, ty_str0, ty_str1, ty_str2, ty_str3, ty_str4, is23_str, ty_lst0, ty_lst1, ty_lst2, ty_lst3, ty_lst4, is23_lst, ty_tup0, ty_tup1, ty_tup2, ty_tup3, ty_tup4, is23_tup, ty_bl0, ty_bl1, ty_bl2, ty_bl3, ty_bl4, is23_bl, ty_non0, ty_non1, ty_non2, ty_non3, ty_non4, is23_non, p18, hc', e1, e2, hl]
theorem numStep2 (X : EC) (v s : PV) (a n x k : Int) (acc : List PV) (hl : acc.length < LL) (hc : ¬ 1000000000000000000 ≤ x) (y z : Int) (hy : y = (x * 48271 + (k + 1) * 69621 + a * 4001) % 2147483647) (hz : z = (y * y + 16807 * (k + 3)) % 2147483629) : execs X bLoop [.sh v, .sh (.int a), .sh (.int n), .sh (.int x), .ow (.lst acc), .sh (.int k), .un] = .nx [.sh v, .sh (.int a), .sh (.int n), .sh (.int x), .ow (.lst (acc ++ [.int (z / 7 % 1009)])), .sh (.int k), .sh (.int z)] := by
  have hc' : decide (1000000000000000000 ≤ x) = false := decide_eq_false hc
  have m3 : small 48271 = true := by decide
  have m4 : small 69621 = true := by decide
  have m5 : small 4001 = true := by decide
  have m6 : small 16807 = true := by decide
  have m7 : small y = true := by
    have h1 : 0 ≤ y ∧ y < 2147483647 := by omega
    unfold small
    simp -implicitDefEqProofs only [Bool.and_eq_true, decide_eq_true_eq]
    omega
  have e1 : binP .mul (.int x) (.int 48271) = .ok .sh (.int (x * 48271)) := mulRx m3
  have e2 : binP .mul (.int (k + 1)) (.int 69621) = .ok .sh (.int ((k + 1) * 69621)) := mulRx m4
  have e3 : binP .mul (.int a) (.int 4001) = .ok .sh (.int (a * 4001)) := mulRx m5
  have e4 : binP .mul (.int 16807) (.int (k + 3)) = .ok .sh (.int (16807 * (k + 3))) := mulLx m6
  have e5 : binP .mul (.int y) (.int y) = .ok .sh (.int (y * y)) := mulLx m7
  have e6 : binP .mod (.int (x * 48271 + (k + 1) * 69621 + a * 4001)) (.int 2147483647) = .ok .sh (.int y) := by rw [hy]; exact modx (by decide)
  have e7 : binP .mod (.int (y * y + 16807 * (k + 3))) (.int 2147483629) = .ok .sh (.int z) := by rw [hz]; exact modx (by decide)
  have e8 : binP .fdiv (.int z) (.int 7) = .ok .sh (.int (z / 7)) := divx (by decide)
  have e9 : binP .mod (.int (z / 7)) (.int 1009) = .ok .sh (.int (z / 7 % 1009)) := modx (by decide)
  simp -implicitDefEqProofs only [bLoop, execs, exec, ev, evs, evC, evP, execM, List.getElem?_cons_zero, List.getElem?_cons_succ, sl_sh, sl_ow, sl_sht, sl_owt, fin_f, fin_t, cons_sh, cons_fr, cons_bo, cons_ex, cons_ok_ex, lbind_ok, lbind_ex, bind_ok, bind_ex, cond_b, kp_sh, kp_fr, kp_ex, tru_bl, tru_ex, tru_lst, tru_str, ofB_some', ofV_some, ofO_some, nox_ok, chnR_eq c_le_int, cmpR_eq c_le_int, cmpR_eq c_lt_int, cmpR_eq c_ge_int, cmpR_eq c_gt_int, cmpR_eq c_eq_int, cmpR_eq c_ne_int, cmpR_eq c_eq_str, cmpR_eq c_ne_str, cmpR_eq c_in_sgn, cmpR_eq c_nin_sgn, cmpR_eq c_is_non, cmpR_eq c_isnot_non, b_len_lst, b_len_tup, b_len_cdt, b_len_str, b_all, b_int_int, b_int_bl, b_int_str, b_str_int, b_str_str, b_isinst, b_list_lst, b_list_dct, b_tuple_lst, strK_str, m_sw, fk_sh, fk_fr, fk_ex, fl_ok, fl_ex, lfl_ok, lfl_ex, fc_b, fc_ex, seq_nx, seq_rt, seq_ex, seq_bk, seq_ct, ofFl_rt, ofFl_nx, ofFl_ex, turn_nx, turn_ct, turn_bk, turn_rt, turn_ex, it_lst, it_tup, it_str, it_rng1, it_rng2, it_enum, cmpR_eq c_ne_bl, cmpR_eq c_eq_bl, List.length_cons, List.length_nil, Nat.zero_add, Nat.reduceAdd, Nat.reduceLeDiff, BEq.rfl, clr, slots, Option.map, tgB, List.set_cons_zero, List.set_cons_succ, calR, toSl, Bool.false_eq_true, if_false, if_true, rtlR, frzL, frz1, List.foldl_cons, List.foldl_nil, owOf, ownK, lstK, appP, owS, raiR, tupR, lstR, Bool.not_true, Bool.not_false, nobF, ofF, ty_int0, ty_int1, ty_int2, ty_int3, ty_int4, is23_int, ty_str0, ty_str1, ty_str2, ty_str3, ty_str4, is23_str, ty_lst0, ty_lst1, ty_lst2, ty_lst3, ty_lst4, is23_lst, ty_tup0, ty_tup1, ty_tup2, ty_tup3, ty_tup4, is23_tup, ty_bl0, ty_bl1, ty_bl2, ty_bl3, ty_bl4, is23_bl, ty_non0, ty_non1, ty_non2, ty_non3, ty_non4, is23_non, p18, hc', addx, e1, e2, e3, e4, e5, e6, e7, e8, e9, hl]
/-- _law_numbers from the list on -/
def btNumbers : Ss := .cons (.set 4 (.lst .nil)) (.cons (.for (.v 5) .rng (.cons (.loc 2) .nil) bLoop [5, 6]) (.cons (.rtl 4) .nil))
theorem btSplit : b16 = .cons (.set 3 (.bin .mul (.cst (.int 1000003)) (.bin .add (.loc 1) (.cst (.int 1)))))
 (.cons (.ifs (.cmp .lt (.loc 1) (.blt .len (.cons (.loc 0) .nil))) (.cons (.set 3 (.blt .int (.cons (.sub (.loc 0) (.loc 1)) .nil))) .nil) .nil)
 (.cons (.ifs (.cmp .lt (.loc 3) (.cst (.int 0))) (.cons (.set 3 (.bin .sub (.cst (.int 1)) (.bin .mul (.cst (.int 2)) (.loc 3)))) .nil) .nil) btNumbers)) := rfl
theorem numHead1 (X : EC) (v : PV) (a n c L : Int) (hm : binP .mul (.int 1000003) (.int (a + 1)) = .ok .sh (.int c)) (hlen : bltP .len [v] = .ok .sh (.int L)) (h : ¬ a < L) (h2 : ¬ c < 0) : execs X b16 [.sh v, .sh (.int a), .sh (.int n), .un, .un, .un, .un] = execs X btNumbers [.sh v, .sh (.int a), .sh (.int n), .sh (.int c), .un, .un, .un] := by
  have h' : decide (a < L) = false := decide_eq_false h
  have h2' : decide (c < 0) = false := decide_eq_false h2
  rw [btSplit]
  generalize btNumbers = bt
  simp -implicitDefEqProofs only [execs, exec, ev, evs, evC, evP, execM, List.getElem?_cons_zero, List.getElem?_cons_succ, sl_sh, sl_ow, sl_sht, sl_owt, fin_f, fin_t, cons_sh, cons_fr, cons_bo, cons_ex, cons_ok_ex, lbind_ok, lbind_ex, bind_ok, bind_ex, cond_b, kp_sh, kp_fr, kp_ex, tru_bl, tru_ex, tru_lst, tru_str, ofB_some', ofV_some, ofO_some, nox_ok, chnR_eq c_le_int, cmpR_eq c_le_int, cmpR_eq c_lt_int, cmpR_eq c_ge_int, cmpR_eq c_gt_int, cmpR_eq c_eq_int, cmpR_eq c_ne_int, cmpR_eq c_eq_str, cmpR_eq c_ne_str, cmpR_eq c_in_sgn, cmpR_eq c_nin_sgn, cmpR_eq c_is_non, cmpR_eq c_isnot_non, b_len_lst, b_len_tup, b_len_cdt, b_len_str, b_all, b_int_int, b_int_bl, b_int_str, b_str_int, b_str_str, b_isinst, b_list_lst, b_list_dct, b_tuple_lst, strK_str, m_sw, fk_sh, fk_fr, fk_ex, fl_ok, fl_ex, lfl_ok, lfl_ex, fc_b, fc_ex, seq_nx, seq_rt, seq_ex, seq_bk, seq_ct, ofFl_rt, ofFl_nx, ofFl_ex, turn_nx, turn_ct, turn_bk, turn_rt, turn_ex, it_lst, it_tup, it_str, it_rng1, it_rng2, it_enum, cmpR_eq c_ne_bl, cmpR_eq c_eq_bl, List.length_cons, List.length_nil, Nat.zero_add, Nat.reduceAdd, Nat.reduceLeDiff, BEq.rfl, clr, slots, Option.map, tgB, List.set_cons_zero, List.set_cons_succ, calR, toSl, Bool.false_eq_true, if_false, if_true, rtlR, frzL, frz1, List.foldl_cons, List.foldl_nil, owOf, ownK, lstK, appP, owS, raiR, tupR, lstR, Bool.not_true, Bool.not_false, nobF, ofF, ty_int0, ty_int1, ty_int2, ty_int3, ty_int4, is23_int, ty_str0, ty_str1, ty_str2, ty_str3, ty_str4, is23_str, ty_lst0, ty_lst1, ty_lst2, ty_lst3, ty_lst4, is23_lst, ty_tup0, ty_tup1, ty_tup2, ty_tup3, ty_tup4, is23_tup, ty_bl0, ty_bl1, ty_bl2, ty_bl3, ty_bl4, is23_bl, ty_non0, ty_non1, ty_non2, ty_non3, ty_non4, is23_non, addx, hm, hlen, h', h2']
theorem numHead2 (X : EC) (v : PV) (a n c x L : Int) (hm : binP .mul (.int 1000003) (.int (a + 1)) = .ok .sh (.int c)) (hlen : bltP .len [v] = .ok .sh (.int L)) (h : a < L) (hs : subP v (.int a) = some (.int x)) (h2 : ¬ x < 0) : execs X b16 [.sh v, .sh (.int a), .sh (.int n), .un, .un, .un, .un] = execs X btNumbers [.sh v, .sh (.int a), .sh (.int n), .sh (.int x), .un, .un, .un] := by
  have h' : decide (a < L) = true := decide_eq_true h
  have h2' : decide (x < 0) = false := decide_eq_false h2
  rw [btSplit]
  generalize btNumbers = bt
  simp -implicitDefEqProofs only [execs, exec, ev, evs, evC, evP, execM, List.getElem?_cons_zero, List.getElem?_cons_succ, sl_sh, sl_ow, sl_sht, sl_owt, fin_f, fin_t, cons_sh, cons_fr, cons_bo, cons_ex, cons_ok_ex, lbind_ok, lbind_ex, bind_ok, bind_ex, cond_b, kp_sh, kp_fr, kp_ex, tru_bl, tru_ex, tru_lst, tru_str, ofB_some', ofV_some, ofO_some, nox_ok, chnR_eq c_le_int, cmpR_eq c_le_int, cmpR_eq c_lt_int, cmpR_eq c_ge_int, cmpR_eq c_gt_int, cmpR_eq c_eq_int, cmpR_eq c_ne_int, cmpR_eq c_eq_str, cmpR_eq c_ne_str, cmpR_eq c_in_sgn, cmpR_eq c_nin_sgn, cmpR_eq c_is_non, cmpR_eq c_isnot_non, b_len_lst, b_len_tup, b_len_cdt, b_len_str, b_all, b_int_int, b_int_bl, b_int_str, b_str_int, b_str_str, b_isinst, b_list_lst, b_list_dct, b_tuple_lst, strK_str, m_sw, fk_sh, fk_fr, fk_ex, fl_ok, fl_ex, lfl_ok, lfl_ex, fc_b, fc_ex, seq_nx, seq_rt, seq_ex, seq_bk, seq_ct, ofFl_rt, ofFl_nx, ofFl_ex, turn_nx, turn_ct, turn_bk, turn_rt, turn_ex, it_lst, it_tup, it_str, it_rng1, it_rng2, it_enum, cmpR_eq c_ne_bl, cmpR_eq c_eq_bl, List.length_cons, List.length_nil, Nat.zero_add, Nat.reduceAdd, Nat.reduceLeDiff, BEq.rfl, clr, slots, Option.map, tgB, List.set_cons_zero, List.set_cons_succ, calR, toSl, Bool.false_eq_true, if_false, if_true, rtlR, frzL, frz1, List.foldl_cons, List.foldl_nil, owOf, ownK, lstK, appP, owS, raiR, tupR, lstR, Bool.not_true, Bool.not_false, nobF, ofF, ty_int0, ty_int1, ty_int2, ty_int3, ty_int4, is23_int, ty_str0, ty_str1, ty_str2, ty_str3, ty_str4, is23_str, ty_lst0, ty_lst1, ty_lst2, ty_lst3, ty_lst4, is23_lst, ty_tup0, ty_tup1, ty_tup2, ty_tup3, ty_tup4, is23_tup, ty_bl0, ty_bl1, ty_bl2, ty_bl3, ty_bl4, is23_bl, ty_non0, ty_non1, ty_non2, ty_non3, ty_non4, is23_non, addx, hm, hlen, h', h2', hs]
theorem numHead3 (X : EC) (v : PV) (a n c x y L : Int) (hm : binP .mul (.int 1000003) (.int (a + 1)) = .ok .sh (.int c)) (hlen : bltP .len [v] = .ok .sh (.int L)) (h : a < L) (hs : subP v (.int a) = some (.int x)) (h2 : x < 0) (hy : y = 1 - 2 * x) : execs X b16 [.sh v, .sh (.int a), .sh (.int n), .un, .un, .un, .un] = execs X btNumbers [.sh v, .sh (.int a), .sh (.int n), .sh (.int y), .un, .un, .un] := by
  have h' : decide (a < L) = true := decide_eq_true h
  have h2' : decide (x < 0) = true := decide_eq_true h2
  have e2 : binP .mul (.int 2) (.int x) = .ok .sh (.int (2 * x)) := mulLx (by decide)
  rw [btSplit, hy]
  generalize btNumbers = bt
  simp -implicitDefEqProofs only [execs, exec, ev, evs, evC, evP, execM, List.getElem?_cons_zero, List.getElem?_cons_succ, sl_sh, sl_ow, sl_sht, sl_owt, fin_f, fin_t, cons_sh, cons_fr, cons_bo, cons_ex, cons_ok_ex, lbind_ok, lbind_ex, bind_ok, bind_ex, cond_b, kp_sh, kp_fr, kp_ex, tru_bl, tru_ex, tru_lst, tru_str, ofB_some', ofV_some, ofO_some, nox_ok, chnR_eq c_le_int, cmpR_eq c_le_int, cmpR_eq c_lt_int, cmpR_eq c_ge_int, cmpR_eq c_gt_int, cmpR_eq c_eq_int, cmpR_eq c_ne_int, cmpR_eq c_eq_str, cmpR_eq c_ne_str, cmpR_eq c_in_sgn, cmpR_eq c_nin_sgn, cmpR_eq c_is_non, cmpR_eq c_isnot_non, b_len_lst, b_len_tup, b_len_cdt, b_len_str, b_all, b_int_int, b_int_bl, b_int_str, b_str_int, b_str_str, b_isinst, b_list_lst, b_list_dct, b_tuple_lst, strK_str, m_sw, fk_sh, fk_fr, fk_ex, fl_ok, fl_ex, lfl_ok, lfl_ex, fc_b, fc_ex, seq_nx, seq_rt, seq_ex, seq_bk, seq_ct, ofFl_rt, ofFl_nx, ofFl_ex, turn_nx, turn_ct, turn_bk, turn_rt, turn_ex, it_lst, it_tup, it_str, it_rng1, it_rng2, it_enum, cmpR_eq c_ne_bl, cmpR_eq c_eq_bl, List.length_cons, List.length_nil, Nat.zero_add, Nat.reduceAdd, Nat.reduceLeDiff, BEq.rfl, clr, slots, Option.map, tgB, List.set_cons_zero, List.set_cons_succ, calR, toSl, Bool.false_eq_true, if_false, if_true, rtlR, frzL, frz1, List.foldl_cons, List.foldl_nil, owOf, ownK, lstK, appP, owS, raiR, tupR, lstR, Bool.not_true, Bool.not_false, nobF, ofF, ty_int0, ty_int1, ty_int2, ty_int3, ty_int4, is23_int, ty_str0, ty_str1, ty_str2, ty_str3, ty_str4, is23_str, ty_lst0, ty_lst1, ty_lst2, ty_lst3, ty_lst4, is23_lst, ty_tup0, ty_tup1, ty_tup2, ty_tup3, ty_tup4, is23_tup, ty_bl0, ty_bl1, ty_bl2, ty_bl3, ty_bl4, is23_bl, ty_non0, ty_non1, ty_non2, ty_non3, ty_non4, is23_non, addx, subx, hm, hlen, h', h2', hs, e2]
theorem numTail (X : EC) (v : PV) (a c : Int) (n : Nat) (hn : n ≤ 100000) : ofFl (execs X btNumbers [.sh v, .sh (.int a), .sh (.int (n : Int)), .sh (.int c), .un, .un, .un]) = .ok .fr (.lst ((lawN a c n).map .int)) := by
  have hnn : inR (n : Int) = true := inR_nat (by omega)
  have step : ∀ k, k < n → execs X bLoop [.sh v, .sh (.int a), .sh (.int (n : Int)), .sh (.int (cellN a c k)), .ow (.lst ((lawN a c k).map .int)), .sh (.int (k : Int)), .un] = .nx [.sh v, .sh (.int a), .sh (.int (n : Int)), .sh (.int (cellN a c (k + 1))), .ow (.lst ((lawN a c (k + 1)).map .int)), .sh (.int (k : Int)), if 1000000000000000000 ≤ cellN a c k then .un else .sh (.int (miyN a c k))] := by
    intro k hk
    have hl : ((lawN a c k).map PV.int).length < LL := by
      have : ((lawN a c k).map PV.int).length = k := by simp [lawN]
      rw [this]
      show k < 16777216
      omega
    have e1 : (lawN a c (k + 1)).map PV.int = (lawN a c k).map PV.int ++ [.int (numN a c k)] := by unfold lawN; rw [List.range_succ]; simp
    rw [e1]
    by_cases hc : 1000000000000000000 ≤ cellN a c k
    · have e2 : cellN a c (k + 1) = cellN a c k / 1009 := by simp -implicitDefEqProofs only [cellN]; rw [if_pos hc]
      have e3 : numN a c k = cellN a c k % 1009 := by unfold numN; rw [if_pos hc]
      rw [e2, e3, if_pos hc]
      exact numStep1 X v .non a n _ k _ hl hc
    · have e2 : cellN a c (k + 1) = cellN a c k := by simp -implicitDefEqProofs only [cellN]; rw [if_neg hc]
      have e3 : numN a c k = miyN a c k / 7 % 1009 := by unfold numN; rw [if_neg hc]
      rw [e2, e3, if_neg hc]
      exact numStep2 X v .non a n _ k _ hl hc (mixN a c k) (miyN a c k) rfl rfl
  unfold btNumbers
  generalize bLoop = bl at step
  simp -implicitDefEqProofs only [execs, exec, ev, evs, evC, evP, execM, List.getElem?_cons_zero, List.getElem?_cons_succ, sl_sh, sl_ow, sl_sht, sl_owt, fin_f, fin_t, cons_sh, cons_fr, cons_bo, cons_ex, cons_ok_ex, lbind_ok, lbind_ex, bind_ok, bind_ex, cond_b, kp_sh, kp_fr, kp_ex, tru_bl, tru_ex, tru_lst, tru_str, ofB_some', ofV_some, ofO_some, nox_ok, chnR_eq c_le_int, cmpR_eq c_le_int, cmpR_eq c_lt_int, cmpR_eq c_ge_int, cmpR_eq c_gt_int, cmpR_eq c_eq_int, cmpR_eq c_ne_int, cmpR_eq c_eq_str, cmpR_eq c_ne_str, cmpR_eq c_in_sgn, cmpR_eq c_nin_sgn, cmpR_eq c_is_non, cmpR_eq c_isnot_non, b_len_lst, b_len_tup, b_len_cdt, b_len_str, b_all, b_int_int, b_int_bl, b_int_str, b_str_int, b_str_str, b_isinst, b_list_lst, b_list_dct, b_tuple_lst, strK_str, m_sw, fk_sh, fk_fr, fk_ex, fl_ok, fl_ex, lfl_ok, lfl_ex, fc_b, fc_ex, seq_nx, seq_rt, seq_ex, seq_bk, seq_ct, ofFl_rt, ofFl_nx, ofFl_ex, turn_nx, turn_ct, turn_bk, turn_rt, turn_ex, it_lst, it_tup, it_str, it_rng1, it_rng2, it_enum, cmpR_eq c_ne_bl, cmpR_eq c_eq_bl, List.length_cons, List.length_nil, Nat.zero_add, Nat.reduceAdd, Nat.reduceLeDiff, BEq.rfl, clr, slots, Option.map, tgB, List.set_cons_zero, List.set_cons_succ, calR, toSl, Bool.false_eq_true, if_false, if_true, rtlR, frzL, frz1, List.foldl_cons, List.foldl_nil, owOf, ownK, lstK, appP, owS, raiR, tupR, lstR, Bool.not_true, Bool.not_false, nobF, ofF, ty_int0, ty_int1, ty_int2, ty_int3, ty_int4, is23_int, ty_str0, ty_str1, ty_str2, ty_str3, ty_str4, is23_str, ty_lst0, ty_lst1, ty_lst2, ty_lst3, ty_lst4, is23_lst, ty_tup0, ty_tup1, ty_tup2, ty_tup3, ty_tup4, is23_tup, ty_bl0, ty_bl1, ty_bl2, ty_bl3, ty_bl4, is23_bl, ty_non0, ty_non1, ty_non2, ty_non3, ty_non4, is23_non, hnn, rng_nat]
  rw [for_all (E := fun k => [.sh v, .sh (.int a), .sh (.int (n : Int)), .sh (.int (cellN a c k)), .ow (.lst ((lawN a c k).map .int)), .un, .un]) (E1 := fun k => [.sh v, .sh (.int a), .sh (.int (n : Int)), .sh (.int (cellN a c (k + 1))), .ow (.lst ((lawN a c (k + 1)).map .int)), .sh (.int (k : Int)), if 1000000000000000000 ≤ cellN a c k then .un else .sh (.int (miyN a c k))]) n (by rfl) (fun k hk => by
      refine ⟨?_, ?_⟩
      · have := step k hk
        simp -implicitDefEqProofs only [execs, exec, ev, evs, evC, evP, execM, List.getElem?_cons_zero, List.getElem?_cons_succ, sl_sh, sl_ow, sl_sht, sl_owt, fin_f, fin_t, cons_sh, cons_fr, cons_bo, cons_ex, cons_ok_ex, lbind_ok, lbind_ex, bind_ok, bind_ex, cond_b, kp_sh, kp_fr, kp_ex, tru_bl, tru_ex, tru_lst, tru_str, ofB_some', ofV_some, ofO_some, nox_ok, chnR_eq c_le_int, cmpR_eq c_le_int, cmpR_eq c_lt_int, cmpR_eq c_ge_int, cmpR_eq c_gt_int, cmpR_eq c_eq_int, cmpR_eq c_ne_int, cmpR_eq c_eq_str, cmpR_eq c_ne_str, cmpR_eq c_in_sgn, cmpR_eq c_nin_sgn, cmpR_eq c_is_non, cmpR_eq c_isnot_non, b_len_lst, b_len_tup, b_len_cdt, b_len_str, b_all, b_int_int, b_int_bl, b_int_str, b_str_int, b_str_str, b_isinst, b_list_lst, b_list_dct, b_tuple_lst, strK_str, m_sw, fk_sh, fk_fr, fk_ex, fl_ok, fl_ex, lfl_ok, lfl_ex, fc_b, fc_ex, seq_nx, seq_rt, seq_ex, seq_bk, seq_ct, ofFl_rt, ofFl_nx, ofFl_ex, turn_nx, turn_ct, turn_bk, turn_rt, turn_ex, it_lst, it_tup, it_str, it_rng1, it_rng2, it_enum, cmpR_eq c_ne_bl, cmpR_eq c_eq_bl, List.length_cons, List.length_nil, Nat.zero_add, Nat.reduceAdd, Nat.reduceLeDiff, BEq.rfl, clr, slots, Option.map, tgB, List.set_cons_zero, List.set_cons_succ, calR, toSl, Bool.false_eq_true, if_false, if_true, rtlR, frzL, frz1, List.foldl_cons, List.foldl_nil, owOf, ownK, lstK, appP, owS, raiR, tupR, lstR, Bool.not_true, Bool.not_false, nobF, ofF, ty_int0, ty_int1, ty_int2, ty_int3, ty_int4, is23_int, ty_str0, ty_str1, ty_str2, ty_str3, ty_str4, is23_str, ty_lst0, ty_lst1, ty_lst2, ty_lst3, ty_lst4, is23_lst, ty_tup0, ty_tup1, ty_tup2, ty_tup3, ty_tup4, is23_tup, ty_bl0, ty_bl1, ty_bl2, ty_bl3, ty_bl4, is23_bl, ty_non0, ty_non1, ty_non2, ty_non3, ty_non4, is23_non]
        exact this
      · simp -implicitDefEqProofs only [execs, exec, ev, evs, evC, evP, execM, List.getElem?_cons_zero, List.getElem?_cons_succ, sl_sh, sl_ow, sl_sht, sl_owt, fin_f, fin_t, cons_sh, cons_fr, cons_bo, cons_ex, cons_ok_ex, lbind_ok, lbind_ex, bind_ok, bind_ex, cond_b, kp_sh, kp_fr, kp_ex, tru_bl, tru_ex, tru_lst, tru_str, ofB_some', ofV_some, ofO_some, nox_ok, chnR_eq c_le_int, cmpR_eq c_le_int, cmpR_eq c_lt_int, cmpR_eq c_ge_int, cmpR_eq c_gt_int, cmpR_eq c_eq_int, cmpR_eq c_ne_int, cmpR_eq c_eq_str, cmpR_eq c_ne_str, cmpR_eq c_in_sgn, cmpR_eq c_nin_sgn, cmpR_eq c_is_non, cmpR_eq c_isnot_non, b_len_lst, b_len_tup, b_len_cdt, b_len_str, b_all, b_int_int, b_int_bl, b_int_str, b_str_int, b_str_str, b_isinst, b_list_lst, b_list_dct, b_tuple_lst, strK_str, m_sw, fk_sh, fk_fr, fk_ex, fl_ok, fl_ex, lfl_ok, lfl_ex, fc_b, fc_ex, seq_nx, seq_rt, seq_ex, seq_bk, seq_ct, ofFl_rt, ofFl_nx, ofFl_ex, turn_nx, turn_ct, turn_bk, turn_rt, turn_ex, it_lst, it_tup, it_str, it_rng1, it_rng2, it_enum, cmpR_eq c_ne_bl, cmpR_eq c_eq_bl, List.length_cons, List.length_nil, Nat.zero_add, Nat.reduceAdd, Nat.reduceLeDiff, BEq.rfl, clr, slots, Option.map, tgB, List.set_cons_zero, List.set_cons_succ, calR, toSl, Bool.false_eq_true, if_false, if_true, rtlR, frzL, frz1, List.foldl_cons, List.foldl_nil, owOf, ownK, lstK, appP, owS, raiR, tupR, lstR, Bool.not_true, Bool.not_false, nobF, ofF, ty_int0, ty_int1, ty_int2, ty_int3, ty_int4, is23_int, ty_str0, ty_str1, ty_str2, ty_str3, ty_str4, is23_str, ty_lst0, ty_lst1, ty_lst2, ty_lst3, ty_lst4, is23_lst, ty_tup0, ty_tup1, ty_tup2, ty_tup3, ty_tup4, is23_tup, ty_bl0, ty_bl1, ty_bl2, ty_bl3, ty_bl4, is23_bl, ty_non0, ty_non1, ty_non2, ty_non3, ty_non4, is23_non])]
  simp -implicitDefEqProofs only [execs, exec, ev, evs, evC, evP, execM, List.getElem?_cons_zero, List.getElem?_cons_succ, sl_sh, sl_ow, sl_sht, sl_owt, fin_f, fin_t, cons_sh, cons_fr, cons_bo, cons_ex, cons_ok_ex, lbind_ok, lbind_ex, bind_ok, bind_ex, cond_b, kp_sh, kp_fr, kp_ex, tru_bl, tru_ex, tru_lst, tru_str, ofB_some', ofV_some, ofO_some, nox_ok, chnR_eq c_le_int, cmpR_eq c_le_int, cmpR_eq c_lt_int, cmpR_eq c_ge_int, cmpR_eq c_gt_int, cmpR_eq c_eq_int, cmpR_eq c_ne_int, cmpR_eq c_eq_str, cmpR_eq c_ne_str, cmpR_eq c_in_sgn, cmpR_eq c_nin_sgn, cmpR_eq c_is_non, cmpR_eq c_isnot_non, b_len_lst, b_len_tup, b_len_cdt, b_len_str, b_all, b_int_int, b_int_bl, b_int_str, b_str_int, b_str_str, b_isinst, b_list_lst, b_list_dct, b_tuple_lst, strK_str, m_sw, fk_sh, fk_fr, fk_ex, fl_ok, fl_ex, lfl_ok, lfl_ex, fc_b, fc_ex, seq_nx, seq_rt, seq_ex, seq_bk, seq_ct, ofFl_rt, ofFl_nx, ofFl_ex, turn_nx, turn_ct, turn_bk, turn_rt, turn_ex, it_lst, it_tup, it_str, it_rng1, it_rng2, it_enum, cmpR_eq c_ne_bl, cmpR_eq c_eq_bl, List.length_cons, List.length_nil, Nat.zero_add, Nat.reduceAdd, Nat.reduceLeDiff, BEq.rfl, clr, slots, Option.map, tgB, List.set_cons_zero, List.set_cons_succ, calR, toSl, Bool.false_eq_true, if_false, if_true, rtlR, frzL, frz1, List.foldl_cons, List.foldl_nil, owOf, ownK, lstK, appP, owS, raiR, tupR, lstR, Bool.not_true, Bool.not_false, nobF, ofF, ty_int0, ty_int1, ty_int2, ty_int3, ty_int4, is23_int, ty_str0, ty_str1, ty_str2, ty_str3, ty_str4, is23_str, ty_lst0, ty_lst1, ty_lst2, ty_lst3, ty_lst4, is23_lst, ty_tup0, ty_tup1, ty_tup2, ty_tup3, ty_tup4, is23_tup, ty_bl0, ty_bl1, ty_bl2, ty_bl3, ty_bl4, is23_bl, ty_non0, ty_non1, ty_non2, ty_non3, ty_non4, is23_non]
theorem f16 (d : Nat) (ns : List Int) (v : PV) (hv : Scr ns v) (a n : Nat) (hn : n ≤ 100000) : callF P (d + 1) 16 [v, .int (a : Int), .int (n : Int)] = .ok .fr (.lst ((lawN a (firC ns a) n).map .int)) := by
  rw [e16]
  have hlen : bltP .len [v] = .ok .sh (.int ns.length) := by rcases hv with rfl | rfl <;> simp [bltP]
  have hm : binP .mul (.int 1000003) (.int ((a : Int) + 1)) = .ok .sh (.int (1000003 * ((a : Int) + 1))) := mulLx (by decide)
  by_cases h : a < ns.length
  · have h' : (a : Int) < (ns.length : Int) := by omega
    have hs : subP v (.int (a : Int)) = some (.int ns[a]) := by
      rcases hv with rfl | rfl
      · show atP _ _ = _
        rw [atP_nat _ _ (by simpa using h)]
        simp [h]
      · show atP _ _ = _
        rw [atP_nat _ _ (by simpa using h)]
        simp [h]
    have hg : ns.getD a (1000003 * ((a : Int) + 1)) = ns[a] := by simp [h]
    by_cases h2 : ns[a] < 0
    · have hf : firC ns a = 1 - 2 * ns[a] := by unfold firC; simp -implicitDefEqProofs only [hg]; rw [if_pos h2]
      rw [numHead3 _ v a n _ _ _ _ hm hlen h' hs h2 hf]
      exact numTail _ v a _ n hn
    · have hf : firC ns a = ns[a] := by unfold firC; simp -implicitDefEqProofs only [hg]; rw [if_neg h2]
      rw [numHead2 _ v a n _ _ _ hm hlen h' hs h2, hf]
      exact numTail _ v a _ n hn
  · have h' : ¬ (a : Int) < (ns.length : Int) := by omega
    have hg : ns.getD a (1000003 * ((a : Int) + 1)) = 1000003 * ((a : Int) + 1) := by simp [h]
    have h2 : ¬ (1000003 * ((a : Int) + 1)) < 0 := by omega
    have hf : firC ns a = 1000003 * ((a : Int) + 1) := by unfold firC; simp -implicitDefEqProofs only [hg]; rw [if_neg h2]
    rw [numHead1 _ v a n _ _ hm hlen h' h2, hf]
    exact numTail _ v a _ n hn
end Wk81
set_option Elab.async false
set_option linter.all false
set_option maxRecDepth 100000
set_option maxHeartbeats 2000000
namespace Wk81
open EV
/-- _law_changed from its ways on -/
def btCh : Ss := match b24 with | .cons _ (.cons _ (.cons _ (.cons _ (.cons _ (.cons _ r))))) => r | _ => .nil
/-- .. the last way -/
def btCh2 : Ss := match btCh with | .cons _ (.cons _ (.cons _ (.cons _ (.cons _ (.cons _ (.cons _ r)))))) => r | _ => .nil
/-- .. its items -/
def btFound : IRs := match btCh2 with | .cons _ (.cons (.set _ (.lst es)) _) => es | _ => .nil
theorem chSplit : b24 = (.cons (.set 2 (.bin .mod (.blt .int (.cons (.bin .add (.bin .mul (.sub (.loc 1) (.cst (.int 0))) (.cst (.int 1009))) (.sub (.loc 1) (.cst (.int 1)))) .nil)) (.bin .add (.blt .len (.cons (.loc 0) .nil)) (.cst (.int 1)))))
 (.cons (.set 3 (.sub (.cst (.str [48, 49, 50, 51, 52, 53, 54, 55, 56, 57, 32, 45, 97, 58, 32, 48, 58, 10])) (.bin .mod (.blt .int (.cons (.sub (.loc 1) (.cst (.int 2))) .nil)) (.cst (.int 18)))))
 (.cons (.set 4 (.mth .split (.loc 0) (.cons (.cst (.str [10])) .nil)))
 (.cons (.set 5 (.bin .mod (.blt .int (.cons (.sub (.loc 1) (.cst (.int 3))) .nil)) (.blt .len (.cons (.loc 4) .nil))))
 (.cons (.set 6 (.bin .mod (.blt .int (.cons (.sub (.loc 1) (.cst (.int 4))) .nil)) (.blt .len (.cons (.loc 4) .nil))))
 (.cons (.set 7 (.bin .mod (.blt .int (.cons (.sub (.loc 1) (.cst (.int 5))) .nil)) (.cst (.int 15)))) btCh)))))) := rfl
theorem chSplit2 : btCh = (.cons (.ifs (.cmp .lt (.loc 7) (.cst (.int 2))) (.cons (.ret (.bin .add (.slc (.loc 0) .nil (.cons (.loc 2) .nil)) (.slc (.loc 0) (.cons (.bin .add (.loc 2) (.cst (.int 1))) .nil) .nil)))
 .nil) .nil)
 (.cons (.ifs (.cmp .lt (.loc 7) (.cst (.int 4))) (.cons (.ret (.bin .add (.bin .add (.slc (.loc 0) .nil (.cons (.loc 2) .nil)) (.loc 3)) (.slc (.loc 0) (.cons (.loc 2) .nil) .nil)))
 .nil) .nil)
 (.cons (.ifs (.cmp .lt (.loc 7) (.cst (.int 6))) (.cons (.ret (.bin .add (.bin .add (.slc (.loc 0) .nil (.cons (.loc 2) .nil)) (.loc 3)) (.slc (.loc 0) (.cons (.bin .add (.loc 2) (.cst (.int 1))) .nil) .nil)))
 .nil) .nil)
 (.cons (.ifs (.cmp .eq (.loc 7) (.cst (.int 6))) (.cons (.ret (.mth .join (.cst (.str [10])) (.cons (.bin .add (.bin .add (.slc (.loc 4) .nil (.cons (.loc 5) .nil)) (.lst (.cons (.sub (.loc 4) (.loc 6)) .nil))) (.slc (.loc 4) (.cons (.loc 5) .nil) .nil)) .nil)))
 .nil) .nil)
 (.cons (.ifs (.cmp .eq (.loc 7) (.cst (.int 7))) (.cons (.ret (.mth .join (.cst (.str [10])) (.cons (.bin .add (.slc (.loc 4) .nil (.cons (.loc 5) .nil)) (.slc (.loc 4) (.cons (.bin .add (.loc 5) (.cst (.int 1))) .nil) .nil)) .nil)))
 .nil) .nil)
 (.cons (.ifs (.cmp .eq (.loc 7) (.cst (.int 8))) (.cons (.ret (.sub (.lst (.cons (.bin .add (.loc 0) (.cst (.str [10]))) (.cons (.bin .add (.cst (.str [10])) (.loc 0)) (.cons (.bin .add (.loc 0) (.cst (.str [32]))) (.cons (.bin .add (.cst (.str [32])) (.loc 0)) (.cons (.mth .replace1 (.loc 0) (.cons (.cst (.str [32])) (.cons (.cst (.str [32, 32])) (.cons (.cst (.int 1)) .nil)))) .nil)))))) (.bin .mod (.blt .int (.cons (.sub (.loc 1) (.cst (.int 4))) .nil)) (.cst (.int 5)))))
 .nil) .nil)
 (.cons (.ifs (.cmp .lt (.loc 7) (.cst (.int 11))) (.cons (.swp 4 (.loc 5) (.loc 6) (.sub (.loc 4) (.loc 6)) (.sub (.loc 4) (.loc 5)))
 (.cons (.ret (.mth .join (.cst (.str [10])) (.cons (.loc 4) .nil)))
 .nil)) .nil) btCh2))))))) := rfl
theorem chSplit3 : btCh2 = (.cons (.set 8 (.mth .split (.sub (.loc 4) (.loc 5)) (.cons (.cst (.str [32])) .nil)))
 (.cons (.set 9 (.lst btFound))
 (.cons (.put 8 (.bin .mod (.blt .int (.cons (.bin .add (.sub (.loc 1) (.cst (.int 3))) (.sub (.loc 1) (.cst (.int 0)))) .nil)) (.blt .len (.cons (.loc 8) .nil))) (.sub (.loc 9) (.bin .mod (.blt .int (.cons (.sub (.loc 1) (.cst (.int 4))) .nil)) (.blt .len (.cons (.loc 9) .nil)))))
 (.cons (.put 4 (.loc 5) (.mth .join (.cst (.str [32])) (.cons (.loc 8) .nil)))
 (.cons (.ret (.mth .join (.cst (.str [10])) (.cons (.loc 4) .nil)))
 .nil))))) := rfl
section
variable (X : EC) (s : List Nat) (n0 n1 n2 n3 n4 n5 : Int) (rest : List Int)
theorem chHead0 (m0 m1 L1 r2 t l o w : Int) (c : Nat) (nums : List PV) (h0 : atP nums 0 = some (.int n0)) (h1 : atP nums 1 = some (.int n1)) (h2 : atP nums 2 = some (.int n2)) (h3 : atP nums 3 = some (.int n3)) (h4 : atP nums 4 = some (.int n4)) (h5 : atP nums 5 = some (.int n5))
    (e1 : binP .mul (.int n0) (.int 1009) = .ok .sh (.int m0)) (e1b : binP .add (.int m0) (.int n1) = .ok .sh (.int m1)) (eL : binP .add (.int (s.length : Int)) (.int 1) = .ok .sh (.int L1)) (e2 : binP .mod (.int m1) (.int L1) = .ok .sh (.int t))
    (e3 : binP .mod (.int n2) (.int 18) = .ok .sh (.int r2)) (hc : atP [48, 49, 50, 51, 52, 53, 54, 55, 56, 57, 32, 45, 97, 58, 32, 48, 58, 10] r2 = some c) (e4 : binP .mod (.int n3) (.int ((splitOn 10 s).length : Int)) = .ok .sh (.int l)) (e5 : binP .mod (.int n4) (.int ((splitOn 10 s).length : Int)) = .ok .sh (.int o)) (e6 : binP .mod (.int n5) (.int 15) = .ok .sh (.int w)) :
    execs X b24 [.sh (.str s), .sh (.lst nums), .un, .un, .un, .un, .un, .un, .un, .un] =
    execs X btCh [.sh (.str s), .sh (.lst nums), .sh (.int t), .sh (.str [c]), .ow (.lst ((splitOn 10 s).map .str)), .sh (.int l), .sh (.int o), .sh (.int w), .un, .un] := by
  rw [chSplit,
    stp (env' := [.sh (.str s), .sh (.lst nums), .sh (.int t), .un, .un, .un, .un, .un, .un, .un]) (by simp -implicitDefEqProofs only [execs, exec, ev, evs, evC, evP, execM, List.getElem?_cons_zero, List.getElem?_cons_succ, sl_sh, sl_ow, sl_sht, sl_owt, fin_f, fin_t, cons_sh, cons_fr, cons_bo, cons_ex, cons_ok_ex, lbind_ok, lbind_ex, bind_ok, bind_ex, cond_b, kp_sh, kp_fr, kp_ex, tru_bl, tru_ex, tru_lst, tru_str, ofB_some', ofV_some, ofO_some, nox_ok, chnR_eq c_le_int, cmpR_eq c_le_int, cmpR_eq c_lt_int, cmpR_eq c_ge_int, cmpR_eq c_gt_int, cmpR_eq c_eq_int, cmpR_eq c_ne_int, cmpR_eq c_eq_str, cmpR_eq c_ne_str, cmpR_eq c_in_sgn, cmpR_eq c_nin_sgn, cmpR_eq c_is_non, cmpR_eq c_isnot_non, b_len_lst, b_len_tup, b_len_cdt, b_len_str, b_all, b_int_int, b_int_bl, b_int_str, b_str_int, b_str_str, b_isinst, b_list_lst, b_list_dct, b_tuple_lst, strK_str, m_sw, fk_sh, fk_fr, fk_ex, fl_ok, fl_ex, lfl_ok, lfl_ex, fc_b, fc_ex, seq_nx, seq_rt, seq_ex, seq_bk, seq_ct, ofFl_rt, ofFl_nx, ofFl_ex, turn_nx, turn_ct, turn_bk, turn_rt, turn_ex, it_lst, it_tup, it_str, it_rng1, it_rng2, it_enum, cmpR_eq c_ne_bl, cmpR_eq c_eq_bl, List.length_cons, List.length_nil, Nat.zero_add, Nat.reduceAdd, Nat.reduceLeDiff, BEq.rfl, clr, slots, Option.map, tgB, List.set_cons_zero, List.set_cons_succ, calR, toSl, Bool.false_eq_true, if_false, if_true, rtlR, frzL, frz1, List.foldl_cons, List.foldl_nil, owOf, ownK, lstK, appP, owS, raiR, tupR, lstR, Bool.not_true, Bool.not_false, nobF, ofF, ty_int0, ty_int1, ty_int2, ty_int3, ty_int4, is23_int, ty_str0, ty_str1, ty_str2, ty_str3, ty_str4, is23_str, ty_lst0, ty_lst1, ty_lst2, ty_lst3, ty_lst4, is23_lst, ty_tup0, ty_tup1, ty_tup2, ty_tup3, ty_tup4, is23_tup, ty_bl0, ty_bl1, ty_bl2, ty_bl3, ty_bl4, is23_bl, ty_non0, ty_non1, ty_non2, ty_non3, ty_non4, is23_non, sub_lst, h0, h1, e1, e1b, eL, e2]),
    stp (env' := [.sh (.str s), .sh (.lst nums), .sh (.int t), .sh (.str [c]), .un, .un, .un, .un, .un, .un]) (by simp -implicitDefEqProofs only [execs, exec, ev, evs, evC, evP, execM, List.getElem?_cons_zero, List.getElem?_cons_succ, sl_sh, sl_ow, sl_sht, sl_owt, fin_f, fin_t, cons_sh, cons_fr, cons_bo, cons_ex, cons_ok_ex, lbind_ok, lbind_ex, bind_ok, bind_ex, cond_b, kp_sh, kp_fr, kp_ex, tru_bl, tru_ex, tru_lst, tru_str, ofB_some', ofV_some, ofO_some, nox_ok, chnR_eq c_le_int, cmpR_eq c_le_int, cmpR_eq c_lt_int, cmpR_eq c_ge_int, cmpR_eq c_gt_int, cmpR_eq c_eq_int, cmpR_eq c_ne_int, cmpR_eq c_eq_str, cmpR_eq c_ne_str, cmpR_eq c_in_sgn, cmpR_eq c_nin_sgn, cmpR_eq c_is_non, cmpR_eq c_isnot_non, b_len_lst, b_len_tup, b_len_cdt, b_len_str, b_all, b_int_int, b_int_bl, b_int_str, b_str_int, b_str_str, b_isinst, b_list_lst, b_list_dct, b_tuple_lst, strK_str, m_sw, fk_sh, fk_fr, fk_ex, fl_ok, fl_ex, lfl_ok, lfl_ex, fc_b, fc_ex, seq_nx, seq_rt, seq_ex, seq_bk, seq_ct, ofFl_rt, ofFl_nx, ofFl_ex, turn_nx, turn_ct, turn_bk, turn_rt, turn_ex, it_lst, it_tup, it_str, it_rng1, it_rng2, it_enum, cmpR_eq c_ne_bl, cmpR_eq c_eq_bl, List.length_cons, List.length_nil, Nat.zero_add, Nat.reduceAdd, Nat.reduceLeDiff, BEq.rfl, clr, slots, Option.map, tgB, List.set_cons_zero, List.set_cons_succ, calR, toSl, Bool.false_eq_true, if_false, if_true, rtlR, frzL, frz1, List.foldl_cons, List.foldl_nil, owOf, ownK, lstK, appP, owS, raiR, tupR, lstR, Bool.not_true, Bool.not_false, nobF, ofF, ty_int0, ty_int1, ty_int2, ty_int3, ty_int4, is23_int, ty_str0, ty_str1, ty_str2, ty_str3, ty_str4, is23_str, ty_lst0, ty_lst1, ty_lst2, ty_lst3, ty_lst4, is23_lst, ty_tup0, ty_tup1, ty_tup2, ty_tup3, ty_tup4, is23_tup, ty_bl0, ty_bl1, ty_bl2, ty_bl3, ty_bl4, is23_bl, ty_non0, ty_non1, ty_non2, ty_non3, ty_non4, is23_non, sub_lst, sub_str, h2, e3, hc]),
    stp (env' := [.sh (.str s), .sh (.lst nums), .sh (.int t), .sh (.str [c]), .ow (.lst ((splitOn 10 s).map .str)), .un, .un, .un, .un, .un]) (by simp -implicitDefEqProofs only [execs, exec, ev, evs, evC, evP, execM, List.getElem?_cons_zero, List.getElem?_cons_succ, sl_sh, sl_ow, sl_sht, sl_owt, fin_f, fin_t, cons_sh, cons_fr, cons_bo, cons_ex, cons_ok_ex, lbind_ok, lbind_ex, bind_ok, bind_ex, cond_b, kp_sh, kp_fr, kp_ex, tru_bl, tru_ex, tru_lst, tru_str, ofB_some', ofV_some, ofO_some, nox_ok, chnR_eq c_le_int, cmpR_eq c_le_int, cmpR_eq c_lt_int, cmpR_eq c_ge_int, cmpR_eq c_gt_int, cmpR_eq c_eq_int, cmpR_eq c_ne_int, cmpR_eq c_eq_str, cmpR_eq c_ne_str, cmpR_eq c_in_sgn, cmpR_eq c_nin_sgn, cmpR_eq c_is_non, cmpR_eq c_isnot_non, b_len_lst, b_len_tup, b_len_cdt, b_len_str, b_all, b_int_int, b_int_bl, b_int_str, b_str_int, b_str_str, b_isinst, b_list_lst, b_list_dct, b_tuple_lst, strK_str, m_sw, fk_sh, fk_fr, fk_ex, fl_ok, fl_ex, lfl_ok, lfl_ex, fc_b, fc_ex, seq_nx, seq_rt, seq_ex, seq_bk, seq_ct, ofFl_rt, ofFl_nx, ofFl_ex, turn_nx, turn_ct, turn_bk, turn_rt, turn_ex, it_lst, it_tup, it_str, it_rng1, it_rng2, it_enum, cmpR_eq c_ne_bl, cmpR_eq c_eq_bl, List.length_cons, List.length_nil, Nat.zero_add, Nat.reduceAdd, Nat.reduceLeDiff, BEq.rfl, clr, slots, Option.map, tgB, List.set_cons_zero, List.set_cons_succ, calR, toSl, Bool.false_eq_true, if_false, if_true, rtlR, frzL, frz1, List.foldl_cons, List.foldl_nil, owOf, ownK, lstK, appP, owS, raiR, tupR, lstR, Bool.not_true, Bool.not_false, nobF, ofF, ty_int0, ty_int1, ty_int2, ty_int3, ty_int4, is23_int, ty_str0, ty_str1, ty_str2, ty_str3, ty_str4, is23_str, ty_lst0, ty_lst1, ty_lst2, ty_lst3, ty_lst4, is23_lst, ty_tup0, ty_tup1, ty_tup2, ty_tup3, ty_tup4, is23_tup, ty_bl0, ty_bl1, ty_bl2, ty_bl3, ty_bl4, is23_bl, ty_non0, ty_non1, ty_non2, ty_non3, ty_non4, is23_non, m_split (show 10 < 128 by decide)]),
    stp (env' := [.sh (.str s), .sh (.lst nums), .sh (.int t), .sh (.str [c]), .ow (.lst ((splitOn 10 s).map .str)), .sh (.int l), .un, .un, .un, .un]) (by simp -implicitDefEqProofs only [execs, exec, ev, evs, evC, evP, execM, List.getElem?_cons_zero, List.getElem?_cons_succ, sl_sh, sl_ow, sl_sht, sl_owt, fin_f, fin_t, cons_sh, cons_fr, cons_bo, cons_ex, cons_ok_ex, lbind_ok, lbind_ex, bind_ok, bind_ex, cond_b, kp_sh, kp_fr, kp_ex, tru_bl, tru_ex, tru_lst, tru_str, ofB_some', ofV_some, ofO_some, nox_ok, chnR_eq c_le_int, cmpR_eq c_le_int, cmpR_eq c_lt_int, cmpR_eq c_ge_int, cmpR_eq c_gt_int, cmpR_eq c_eq_int, cmpR_eq c_ne_int, cmpR_eq c_eq_str, cmpR_eq c_ne_str, cmpR_eq c_in_sgn, cmpR_eq c_nin_sgn, cmpR_eq c_is_non, cmpR_eq c_isnot_non, b_len_lst, b_len_tup, b_len_cdt, b_len_str, b_all, b_int_int, b_int_bl, b_int_str, b_str_int, b_str_str, b_isinst, b_list_lst, b_list_dct, b_tuple_lst, strK_str, m_sw, fk_sh, fk_fr, fk_ex, fl_ok, fl_ex, lfl_ok, lfl_ex, fc_b, fc_ex, seq_nx, seq_rt, seq_ex, seq_bk, seq_ct, ofFl_rt, ofFl_nx, ofFl_ex, turn_nx, turn_ct, turn_bk, turn_rt, turn_ex, it_lst, it_tup, it_str, it_rng1, it_rng2, it_enum, cmpR_eq c_ne_bl, cmpR_eq c_eq_bl, List.length_cons, List.length_nil, Nat.zero_add, Nat.reduceAdd, Nat.reduceLeDiff, BEq.rfl, clr, slots, Option.map, tgB, List.set_cons_zero, List.set_cons_succ, calR, toSl, Bool.false_eq_true, if_false, if_true, rtlR, frzL, frz1, List.foldl_cons, List.foldl_nil, owOf, ownK, lstK, appP, owS, raiR, tupR, lstR, Bool.not_true, Bool.not_false, nobF, ofF, ty_int0, ty_int1, ty_int2, ty_int3, ty_int4, is23_int, ty_str0, ty_str1, ty_str2, ty_str3, ty_str4, is23_str, ty_lst0, ty_lst1, ty_lst2, ty_lst3, ty_lst4, is23_lst, ty_tup0, ty_tup1, ty_tup2, ty_tup3, ty_tup4, is23_tup, ty_bl0, ty_bl1, ty_bl2, ty_bl3, ty_bl4, is23_bl, ty_non0, ty_non1, ty_non2, ty_non3, ty_non4, is23_non, sub_lst, h3, List.length_map, e4]),
    stp (env' := [.sh (.str s), .sh (.lst nums), .sh (.int t), .sh (.str [c]), .ow (.lst ((splitOn 10 s).map .str)), .sh (.int l), .sh (.int o), .un, .un, .un]) (by simp -implicitDefEqProofs only [execs, exec, ev, evs, evC, evP, execM, List.getElem?_cons_zero, List.getElem?_cons_succ, sl_sh, sl_ow, sl_sht, sl_owt, fin_f, fin_t, cons_sh, cons_fr, cons_bo, cons_ex, cons_ok_ex, lbind_ok, lbind_ex, bind_ok, bind_ex, cond_b, kp_sh, kp_fr, kp_ex, tru_bl, tru_ex, tru_lst, tru_str, ofB_some', ofV_some, ofO_some, nox_ok, chnR_eq c_le_int, cmpR_eq c_le_int, cmpR_eq c_lt_int, cmpR_eq c_ge_int, cmpR_eq c_gt_int, cmpR_eq c_eq_int, cmpR_eq c_ne_int, cmpR_eq c_eq_str, cmpR_eq c_ne_str, cmpR_eq c_in_sgn, cmpR_eq c_nin_sgn, cmpR_eq c_is_non, cmpR_eq c_isnot_non, b_len_lst, b_len_tup, b_len_cdt, b_len_str, b_all, b_int_int, b_int_bl, b_int_str, b_str_int, b_str_str, b_isinst, b_list_lst, b_list_dct, b_tuple_lst, strK_str, m_sw, fk_sh, fk_fr, fk_ex, fl_ok, fl_ex, lfl_ok, lfl_ex, fc_b, fc_ex, seq_nx, seq_rt, seq_ex, seq_bk, seq_ct, ofFl_rt, ofFl_nx, ofFl_ex, turn_nx, turn_ct, turn_bk, turn_rt, turn_ex, it_lst, it_tup, it_str, it_rng1, it_rng2, it_enum, cmpR_eq c_ne_bl, cmpR_eq c_eq_bl, List.length_cons, List.length_nil, Nat.zero_add, Nat.reduceAdd, Nat.reduceLeDiff, BEq.rfl, clr, slots, Option.map, tgB, List.set_cons_zero, List.set_cons_succ, calR, toSl, Bool.false_eq_true, if_false, if_true, rtlR, frzL, frz1, List.foldl_cons, List.foldl_nil, owOf, ownK, lstK, appP, owS, raiR, tupR, lstR, Bool.not_true, Bool.not_false, nobF, ofF, ty_int0, ty_int1, ty_int2, ty_int3, ty_int4, is23_int, ty_str0, ty_str1, ty_str2, ty_str3, ty_str4, is23_str, ty_lst0, ty_lst1, ty_lst2, ty_lst3, ty_lst4, is23_lst, ty_tup0, ty_tup1, ty_tup2, ty_tup3, ty_tup4, is23_tup, ty_bl0, ty_bl1, ty_bl2, ty_bl3, ty_bl4, is23_bl, ty_non0, ty_non1, ty_non2, ty_non3, ty_non4, is23_non, sub_lst, h4, List.length_map, e5]),
    stp (env' := [.sh (.str s), .sh (.lst nums), .sh (.int t), .sh (.str [c]), .ow (.lst ((splitOn 10 s).map .str)), .sh (.int l), .sh (.int o), .sh (.int w), .un, .un]) (by simp -implicitDefEqProofs only [execs, exec, ev, evs, evC, evP, execM, List.getElem?_cons_zero, List.getElem?_cons_succ, sl_sh, sl_ow, sl_sht, sl_owt, fin_f, fin_t, cons_sh, cons_fr, cons_bo, cons_ex, cons_ok_ex, lbind_ok, lbind_ex, bind_ok, bind_ex, cond_b, kp_sh, kp_fr, kp_ex, tru_bl, tru_ex, tru_lst, tru_str, ofB_some', ofV_some, ofO_some, nox_ok, chnR_eq c_le_int, cmpR_eq c_le_int, cmpR_eq c_lt_int, cmpR_eq c_ge_int, cmpR_eq c_gt_int, cmpR_eq c_eq_int, cmpR_eq c_ne_int, cmpR_eq c_eq_str, cmpR_eq c_ne_str, cmpR_eq c_in_sgn, cmpR_eq c_nin_sgn, cmpR_eq c_is_non, cmpR_eq c_isnot_non, b_len_lst, b_len_tup, b_len_cdt, b_len_str, b_all, b_int_int, b_int_bl, b_int_str, b_str_int, b_str_str, b_isinst, b_list_lst, b_list_dct, b_tuple_lst, strK_str, m_sw, fk_sh, fk_fr, fk_ex, fl_ok, fl_ex, lfl_ok, lfl_ex, fc_b, fc_ex, seq_nx, seq_rt, seq_ex, seq_bk, seq_ct, ofFl_rt, ofFl_nx, ofFl_ex, turn_nx, turn_ct, turn_bk, turn_rt, turn_ex, it_lst, it_tup, it_str, it_rng1, it_rng2, it_enum, cmpR_eq c_ne_bl, cmpR_eq c_eq_bl, List.length_cons, List.length_nil, Nat.zero_add, Nat.reduceAdd, Nat.reduceLeDiff, BEq.rfl, clr, slots, Option.map, tgB, List.set_cons_zero, List.set_cons_succ, calR, toSl, Bool.false_eq_true, if_false, if_true, rtlR, frzL, frz1, List.foldl_cons, List.foldl_nil, owOf, ownK, lstK, appP, owS, raiR, tupR, lstR, Bool.not_true, Bool.not_false, nobF, ofF, ty_int0, ty_int1, ty_int2, ty_int3, ty_int4, is23_int, ty_str0, ty_str1, ty_str2, ty_str3, ty_str4, is23_str, ty_lst0, ty_lst1, ty_lst2, ty_lst3, ty_lst4, is23_lst, ty_tup0, ty_tup1, ty_tup2, ty_tup3, ty_tup4, is23_tup, ty_bl0, ty_bl1, ty_bl2, ty_bl3, ty_bl4, is23_bl, ty_non0, ty_non1, ty_non2, ty_non3, ty_non4, is23_non, sub_lst, h5, e6])]
theorem chHead (hs : s.length ≤ 1000000) : ∃ (t l o : Nat) (w : Int) (c : Nat), t ≤ s.length ∧ l < (splitOn 10 s).length ∧ o < (splitOn 10 s).length ∧
    execs X b24 [.sh (.str s), .sh (.lst ((n0 :: n1 :: n2 :: n3 :: n4 :: n5 :: rest).map .int)), .un, .un, .un, .un, .un, .un, .un, .un] =
    execs X btCh [.sh (.str s), .sh (.lst ((n0 :: n1 :: n2 :: n3 :: n4 :: n5 :: rest).map .int)), .sh (.int (t : Int)), .sh (.str [c]), .ow (.lst ((splitOn 10 s).map .str)), .sh (.int (l : Int)), .sh (.int (o : Int)), .sh (.int w), .un, .un] := by
  have hn := splitNe 10 s
  obtain ⟨t, ht, et⟩ := emod_nat (n0 * 1009 + n1) (s.length + 1) (by omega)
  obtain ⟨l, hl, el⟩ := emod_nat n3 (splitOn 10 s).length hn
  obtain ⟨o, ho, eo⟩ := emod_nat n4 (splitOn 10 s).length hn
  have e2 : binP .mod (.int (n0 * 1009 + n1)) (.int ((s.length + 1 : Nat) : Int)) = .ok .sh (.int (t : Int)) := by
    rw [modx (by simp -implicitDefEqProofs only [decide_eq_true_eq]; omega), et]
  have e4 : binP .mod (.int n3) (.int ((splitOn 10 s).length : Int)) = .ok .sh (.int (l : Int)) := by
    rw [modx (by simp -implicitDefEqProofs only [decide_eq_true_eq]; omega), el]
  have e5 : binP .mod (.int n4) (.int ((splitOn 10 s).length : Int)) = .ok .sh (.int (o : Int)) := by
    rw [modx (by simp -implicitDefEqProofs only [decide_eq_true_eq]; omega), eo]
  obtain ⟨c, _, hc⟩ := atP_lt [48, 49, 50, 51, 52, 53, 54, 55, 56, 57, 32, 45, 97, 58, 32, 48, 58, 10] (n2 % 18) (by omega) (by show _ < (18 : Int); omega)
  exact ⟨t, l, o, n5 % 15, c, by omega, hl, ho, chHead0 X s n0 n1 n2 n3 n4 n5 _ _ _ _ _ _ _ _ c _ (atP_0 _ _) (atP_1 _ _ _) (atP_2 _ _ _ _) (atP_3 _ _ _ _ _) (atP_4 _ _ _ _ _ _) (atP_5 _ _ _ _ _ _ _) (mulRx (by decide)) addx addx e2 (modx (by decide)) hc e4 e5 (modx (by decide))⟩
theorem foundT (t l o : Nat) (w : Int) (c : Nat) (ws : List (List Nat)) (hw : 0 < ws.length) (n : Nat) (hn : lw ws ≤ n) (h19 : 30 ≤ n) : isTxl (evs X btFound [.sh (.str s), .sh (.lst ((n0 :: n1 :: n2 :: n3 :: n4 :: n5 :: rest).map .int)), .sh (.int (t : Int)), .sh (.str [c]), .ow (.lst ((splitOn 10 s).map .str)), .sh (.int (l : Int)), .sh (.int (o : Int)), .sh (.int w), .ow (.lst (ws.map .str)), .un]) 17 n := by
  unfold btFound btCh2 btCh b24
  repeat first
    | exact txl_nil
    | refine txl_cons (txt_cst _ (Nat.le_trans (by decide) h19)) ?_
    | refine txl_cons (txt_mul _ _ (by decide) (by decide) (Nat.le_trans (by decide) h19)) ?_
    | refine txl_cons (txt_sub1 ws rfl rfl (by decide) (by omega) hn) ?_
    | refine txl_cons (txt_last ws rfl hw hn) ?_
theorem chTail (hs : s.length ≤ 1000000) (t l o : Nat) (w : Int) (c : Nat) (hl : l < (splitOn 10 s).length) (ho : o < (splitOn 10 s).length) : isTxt (ofFl (execs X btCh [.sh (.str s), .sh (.lst ((n0 :: n1 :: n2 :: n3 :: n4 :: n5 :: rest).map .int)), .sh (.int (t : Int)), .sh (.str [c]), .ow (.lst ((splitOn 10 s).map .str)), .sh (.int (l : Int)), .sh (.int (o : Int)), .sh (.int w), .un, .un])) (4 * s.length + 200) := by
  have hn := splitNe 10 s
  have hw := lw_split 10 s
  have hSL : (SL : Nat) = 16000000 := rfl
  have hLL : (LL : Nat) = 16777216 := rfl
  rw [chSplit2]
  refine if_lt rfl (fun _ => txt_add (txt_slc (txt_loc s rfl (Nat.le_refl _)) pt_nil (pt_e rfl)) (txt_slc (txt_loc s rfl (Nat.le_refl _)) (pt_e rfl) pt_nil) (by omega) (by omega)) fun _ => ?_
  refine if_lt rfl (fun _ => txt_add (txt_add (txt_slc (txt_loc s rfl (Nat.le_refl _)) pt_nil (pt_e rfl)) (txt_loc [c] rfl (Nat.le_refl 1)) (by omega) (Nat.le_refl _)) (txt_slc (txt_loc s rfl (Nat.le_refl _)) (pt_e rfl) pt_nil) (by omega) (by omega)) fun _ => ?_
  refine if_lt rfl (fun _ => txt_add (txt_add (txt_slc (txt_loc s rfl (Nat.le_refl _)) pt_nil (pt_e rfl)) (txt_loc [c] rfl (Nat.le_refl 1)) (by omega) (Nat.le_refl _)) (txt_slc (txt_loc s rfl (Nat.le_refl _)) (pt_e rfl) pt_nil) (by omega) (by omega)) fun _ => ?_
  refine if_eq rfl (fun _ => txt_join 10 (txs_add (txs_add (txs_slc (txs_ow _ rfl (Nat.le_refl _)) pt_nil (pt_e rfl)) (txs_one (txt_sub1 _ rfl rfl (by omega) (by omega) (Nat.le_refl _)) (Nat.le_refl _)) (by omega) (Nat.le_refl _)) (txs_slc (txs_ow _ rfl (Nat.le_refl _)) (pt_e rfl) pt_nil) (by omega) (by omega)) (by omega)) fun _ => ?_
  refine if_eq rfl (fun _ => txt_join 10 (txs_add (txs_slc (txs_ow _ rfl (Nat.le_refl _)) pt_nil (pt_e rfl)) (txs_slc (txs_ow _ rfl (Nat.le_refl _)) (pt_e rfl) pt_nil) (by omega) (by omega)) (by omega)) fun _ => ?_
  refine if_eq rfl (fun _ => txt_pick (k := 5) (q := .sh) (j := n4 % 5) (txl_cons (txt_add (txt_loc s rfl (Nat.le_refl _)) (txt_cst _ (show _ ≤ 1 by decide)) (by omega) (by omega)) (txl_cons (txt_add (txt_cst _ (show _ ≤ 1 by decide)) (txt_loc s rfl (Nat.le_refl _)) (by omega) (by omega)) (txl_cons (txt_add (txt_loc s rfl (Nat.le_refl _)) (txt_cst _ (show _ ≤ 1 by decide)) (by omega) (by omega))
    (txl_cons (txt_add (txt_cst _ (show _ ≤ 1 by decide)) (txt_loc s rfl (Nat.le_refl _)) (by omega) (by omega)) (txl_cons (txt_rep _ _ (txt_loc s rfl (Nat.le_refl _)) (by decide) (by show _ + 2 ≤ _; omega) (by show _ + 2 ≤ _; omega)) txl_nil))))) (by decide) ?_ (by omega) (by omega)) fun _ => ?_
  · have e3 : binP .mod (.int n4) (.int 5) = .ok .sh (.int (n4 % 5)) := modx (by decide)
    simp -implicitDefEqProofs only [execs, exec, ev, evs, evC, evP, execM, List.getElem?_cons_zero, List.getElem?_cons_succ, sl_sh, sl_ow, sl_sht, sl_owt, fin_f, fin_t, cons_sh, cons_fr, cons_bo, cons_ex, cons_ok_ex, lbind_ok, lbind_ex, bind_ok, bind_ex, cond_b, kp_sh, kp_fr, kp_ex, tru_bl, tru_ex, tru_lst, tru_str, ofB_some', ofV_some, ofO_some, nox_ok, chnR_eq c_le_int, cmpR_eq c_le_int, cmpR_eq c_lt_int, cmpR_eq c_ge_int, cmpR_eq c_gt_int, cmpR_eq c_eq_int, cmpR_eq c_ne_int, cmpR_eq c_eq_str, cmpR_eq c_ne_str, cmpR_eq c_in_sgn, cmpR_eq c_nin_sgn, cmpR_eq c_is_non, cmpR_eq c_isnot_non, b_len_lst, b_len_tup, b_len_cdt, b_len_str, b_all, b_int_int, b_int_bl, b_int_str, b_str_int, b_str_str, b_isinst, b_list_lst, b_list_dct, b_tuple_lst, strK_str, m_sw, fk_sh, fk_fr, fk_ex, fl_ok, fl_ex, lfl_ok, lfl_ex, fc_b, fc_ex, seq_nx, seq_rt, seq_ex, seq_bk, seq_ct, ofFl_rt, ofFl_nx, ofFl_ex, turn_nx, turn_ct, turn_bk, turn_rt, turn_ex, it_lst, it_tup, it_str, it_rng1, it_rng2, it_enum, cmpR_eq c_ne_bl, cmpR_eq c_eq_bl, List.length_cons, List.length_nil, Nat.zero_add, Nat.reduceAdd, Nat.reduceLeDiff, BEq.rfl, clr, slots, Option.map, tgB, List.set_cons_zero, List.set_cons_succ, calR, toSl, Bool.false_eq_true, if_false, if_true, rtlR, frzL, frz1, List.foldl_cons, List.foldl_nil, owOf, ownK, lstK, appP, owS, raiR, tupR, lstR, Bool.not_true, Bool.not_false, nobF, ofF, ty_int0, ty_int1, ty_int2, ty_int3, ty_int4, is23_int, ty_str0, ty_str1, ty_str2, ty_str3, ty_str4, is23_str, ty_lst0, ty_lst1, ty_lst2, ty_lst3, ty_lst4, is23_lst, ty_tup0, ty_tup1, ty_tup2, ty_tup3, ty_tup4, is23_tup, ty_bl0, ty_bl1, ty_bl2, ty_bl3, ty_bl4, is23_bl, ty_non0, ty_non1, ty_non2, ty_non3, ty_non4, is23_non, List.map_cons, sub_lst, atP_4, e3]
  refine if_lt2 rfl (fun _ => ?_) fun _ => ?_
  · rw [stp (env' := [.sh (.str s), .sh (.lst ((n0 :: n1 :: n2 :: n3 :: n4 :: n5 :: rest).map .int)), .sh (.int (t : Int)), .sh (.str [c]), .ow (.lst ((((splitOn 10 s).set l (splitOn 10 s)[o]).set o (splitOn 10 s)[l]).map .str)), .sh (.int (l : Int)), .sh (.int (o : Int)), .sh (.int w), .un, .un]) (by
      simp -implicitDefEqProofs only [execs, exec, ev, evs, evC, evP, execM, List.getElem?_cons_zero, List.getElem?_cons_succ, sl_sh, sl_ow, sl_sht, sl_owt, fin_f, fin_t, cons_sh, cons_fr, cons_bo, cons_ex, cons_ok_ex, lbind_ok, lbind_ex, bind_ok, bind_ex, cond_b, kp_sh, kp_fr, kp_ex, tru_bl, tru_ex, tru_lst, tru_str, ofB_some', ofV_some, ofO_some, nox_ok, chnR_eq c_le_int, cmpR_eq c_le_int, cmpR_eq c_lt_int, cmpR_eq c_ge_int, cmpR_eq c_gt_int, cmpR_eq c_eq_int, cmpR_eq c_ne_int, cmpR_eq c_eq_str, cmpR_eq c_ne_str, cmpR_eq c_in_sgn, cmpR_eq c_nin_sgn, cmpR_eq c_is_non, cmpR_eq c_isnot_non, b_len_lst, b_len_tup, b_len_cdt, b_len_str, b_all, b_int_int, b_int_bl, b_int_str, b_str_int, b_str_str, b_isinst, b_list_lst, b_list_dct, b_tuple_lst, strK_str, m_sw, fk_sh, fk_fr, fk_ex, fl_ok, fl_ex, lfl_ok, lfl_ex, fc_b, fc_ex, seq_nx, seq_rt, seq_ex, seq_bk, seq_ct, ofFl_rt, ofFl_nx, ofFl_ex, turn_nx, turn_ct, turn_bk, turn_rt, turn_ex, it_lst, it_tup, it_str, it_rng1, it_rng2, it_enum, cmpR_eq c_ne_bl, cmpR_eq c_eq_bl, List.length_cons, List.length_nil, Nat.zero_add, Nat.reduceAdd, Nat.reduceLeDiff, BEq.rfl, clr, slots, Option.map, tgB, List.set_cons_zero, List.set_cons_succ, calR, toSl, Bool.false_eq_true, if_false, if_true, rtlR, frzL, frz1, List.foldl_cons, List.foldl_nil, owOf, ownK, lstK, appP, owS, raiR, tupR, lstR, Bool.not_true, Bool.not_false, nobF, ofF, ty_int0, ty_int1, ty_int2, ty_int3, ty_int4, is23_int, ty_str0, ty_str1, ty_str2, ty_str3, ty_str4, is23_str, ty_lst0, ty_lst1, ty_lst2, ty_lst3, ty_lst4, is23_lst, ty_tup0, ty_tup1, ty_tup2, ty_tup3, ty_tup4, is23_tup, ty_bl0, ty_bl1, ty_bl2, ty_bl3, ty_bl4, is23_bl, ty_non0, ty_non1, ty_non2, ty_non3, ty_non4, is23_non, sub_lst, str_at _ _ hl, str_at _ _ ho, swpV, put_nat _ _ _ (show l < ((splitOn 10 s).map PV.str).length by simpa using hl), set_str, put_nat _ _ _ (show o < (((splitOn 10 s).set l (splitOn 10 s)[o]).map PV.str).length by simpa using ho)])]
    refine ret_txF (txt_join 10 (txs_ow _ rfl (Nat.le_refl _)) ?_ |>.le ?_)
    all_goals
      have h1 := lw_set ((splitOn 10 s).set l (splitOn 10 s)[o]) o (splitOn 10 s)[l]
      have h2 := lw_set (splitOn 10 s) l (splitOn 10 s)[o]
      have h3 := lw_mem (List.getElem_mem hl)
      have h4 := lw_mem (List.getElem_mem ho)
      omega
  · rw [chSplit3]
    have hy := lw_mem (List.getElem_mem hl)
    generalize hyy : (splitOn 10 s)[l] = y at hy
    have hw0 := splitNe 32 y
    have hwl := lw_split 32 y
    obtain ⟨ys, f1, f2, f3⟩ := foundT X s n0 n1 n2 n3 n4 n5 rest t l o w c (splitOn 32 y) hw0 (lw (splitOn 32 y) + 30) (by omega) (by omega)
    obtain ⟨j, hj, ej⟩ := emod_nat (n3 + n0) (splitOn 32 y).length hw0
    have e1 : binP .mod (.int (n3 + n0)) (.int ((splitOn 32 y).length : Int)) = .ok .sh (.int (j : Int)) := by
      rw [modx (by simp -implicitDefEqProofs only [decide_eq_true_eq]; omega), ej]
    obtain ⟨k, hk, ek⟩ := emod_nat n4 ys.length (by rw [f2]; decide)
    have e2 : binP .mod (.int n4) (.int (ys.length : Int)) = .ok .sh (.int (k : Int)) := by
      rw [modx (by simp -implicitDefEqProofs only [decide_eq_true_eq]; omega), ek]
    have e3 : lstR true (ys.map PV.str) = .ok .fr (.lst (ys.map .str)) := if_pos (by simp -implicitDefEqProofs only [List.length_map]; omega)
    have e4 := str_at _ _ hl
    rw [hyy] at e4
    have h1 := lw_set (splitOn 32 y) j ys[k]
    have h2 := f3 ys[k] (List.getElem_mem hk)
    generalize hws : (splitOn 32 y).set j ys[k] = ws at h1
    have h3 := joinS_len 32 ws
    have h5 := lw_set (splitOn 10 s) l (joinS [32] ws)
    rw [stp (env' := [.sh (.str s), .sh (.lst ((n0 :: n1 :: n2 :: n3 :: n4 :: n5 :: rest).map .int)), .sh (.int (t : Int)), .sh (.str [c]), .ow (.lst ((splitOn 10 s).map .str)), .sh (.int (l : Int)), .sh (.int (o : Int)), .sh (.int w), .ow (.lst ((splitOn 32 y).map .str)), .un]) (by simp -implicitDefEqProofs only [execs, exec, ev, evs, evC, evP, execM, List.getElem?_cons_zero, List.getElem?_cons_succ, sl_sh, sl_ow, sl_sht, sl_owt, fin_f, fin_t, cons_sh, cons_fr, cons_bo, cons_ex, cons_ok_ex, lbind_ok, lbind_ex, bind_ok, bind_ex, cond_b, kp_sh, kp_fr, kp_ex, tru_bl, tru_ex, tru_lst, tru_str, ofB_some', ofV_some, ofO_some, nox_ok, chnR_eq c_le_int, cmpR_eq c_le_int, cmpR_eq c_lt_int, cmpR_eq c_ge_int, cmpR_eq c_gt_int, cmpR_eq c_eq_int, cmpR_eq c_ne_int, cmpR_eq c_eq_str, cmpR_eq c_ne_str, cmpR_eq c_in_sgn, cmpR_eq c_nin_sgn, cmpR_eq c_is_non, cmpR_eq c_isnot_non, b_len_lst, b_len_tup, b_len_cdt, b_len_str, b_all, b_int_int, b_int_bl, b_int_str, b_str_int, b_str_str, b_isinst, b_list_lst, b_list_dct, b_tuple_lst, strK_str, m_sw, fk_sh, fk_fr, fk_ex, fl_ok, fl_ex, lfl_ok, lfl_ex, fc_b, fc_ex, seq_nx, seq_rt, seq_ex, seq_bk, seq_ct, ofFl_rt, ofFl_nx, ofFl_ex, turn_nx, turn_ct, turn_bk, turn_rt, turn_ex, it_lst, it_tup, it_str, it_rng1, it_rng2, it_enum, cmpR_eq c_ne_bl, cmpR_eq c_eq_bl, List.length_cons, List.length_nil, Nat.zero_add, Nat.reduceAdd, Nat.reduceLeDiff, BEq.rfl, clr, slots, Option.map, tgB, List.set_cons_zero, List.set_cons_succ, calR, toSl, Bool.false_eq_true, if_false, if_true, rtlR, frzL, frz1, List.foldl_cons, List.foldl_nil, owOf, ownK, lstK, appP, owS, raiR, tupR, lstR, Bool.not_true, Bool.not_false, nobF, ofF, ty_int0, ty_int1, ty_int2, ty_int3, ty_int4, is23_int, ty_str0, ty_str1, ty_str2, ty_str3, ty_str4, is23_str, ty_lst0, ty_lst1, ty_lst2, ty_lst3, ty_lst4, is23_lst, ty_tup0, ty_tup1, ty_tup2, ty_tup3, ty_tup4, is23_tup, ty_bl0, ty_bl1, ty_bl2, ty_bl3, ty_bl4, is23_bl, ty_non0, ty_non1, ty_non2, ty_non3, ty_non4, is23_non, sub_lst, e4, m_split (show 32 < 128 by decide)]),
      stp (env' := [.sh (.str s), .sh (.lst ((n0 :: n1 :: n2 :: n3 :: n4 :: n5 :: rest).map .int)), .sh (.int (t : Int)), .sh (.str [c]), .ow (.lst ((splitOn 10 s).map .str)), .sh (.int (l : Int)), .sh (.int (o : Int)), .sh (.int w), .ow (.lst ((splitOn 32 y).map .str)), .ow (.lst (ys.map .str))]) (by simp -implicitDefEqProofs only [exec, ev, fin_f, f1, lbind_ok, e3, fk_fr, toSl, List.set_cons_zero, List.set_cons_succ]),
      stp (env' := [.sh (.str s), .sh (.lst ((n0 :: n1 :: n2 :: n3 :: n4 :: n5 :: rest).map .int)), .sh (.int (t : Int)), .sh (.str [c]), .ow (.lst ((splitOn 10 s).map .str)), .sh (.int (l : Int)), .sh (.int (o : Int)), .sh (.int w), .ow (.lst (ws.map .str)), .ow (.lst (ys.map .str))]) (by simp -implicitDefEqProofs only [execs, exec, ev, evs, evC, evP, execM, List.getElem?_cons_zero, List.getElem?_cons_succ, sl_sh, sl_ow, sl_sht, sl_owt, fin_f, fin_t, cons_sh, cons_fr, cons_bo, cons_ex, cons_ok_ex, lbind_ok, lbind_ex, bind_ok, bind_ex, cond_b, kp_sh, kp_fr, kp_ex, tru_bl, tru_ex, tru_lst, tru_str, ofB_some', ofV_some, ofO_some, nox_ok, chnR_eq c_le_int, cmpR_eq c_le_int, cmpR_eq c_lt_int, cmpR_eq c_ge_int, cmpR_eq c_gt_int, cmpR_eq c_eq_int, cmpR_eq c_ne_int, cmpR_eq c_eq_str, cmpR_eq c_ne_str, cmpR_eq c_in_sgn, cmpR_eq c_nin_sgn, cmpR_eq c_is_non, cmpR_eq c_isnot_non, b_len_lst, b_len_tup, b_len_cdt, b_len_str, b_all, b_int_int, b_int_bl, b_int_str, b_str_int, b_str_str, b_isinst, b_list_lst, b_list_dct, b_tuple_lst, strK_str, m_sw, fk_sh, fk_fr, fk_ex, fl_ok, fl_ex, lfl_ok, lfl_ex, fc_b, fc_ex, seq_nx, seq_rt, seq_ex, seq_bk, seq_ct, ofFl_rt, ofFl_nx, ofFl_ex, turn_nx, turn_ct, turn_bk, turn_rt, turn_ex, it_lst, it_tup, it_str, it_rng1, it_rng2, it_enum, cmpR_eq c_ne_bl, cmpR_eq c_eq_bl, List.length_cons, List.length_nil, Nat.zero_add, Nat.reduceAdd, Nat.reduceLeDiff, BEq.rfl, clr, slots, Option.map, tgB, List.set_cons_zero, List.set_cons_succ, calR, toSl, Bool.false_eq_true, if_false, if_true, rtlR, frzL, frz1, List.foldl_cons, List.foldl_nil, owOf, ownK, lstK, appP, owS, raiR, tupR, lstR, Bool.not_true, Bool.not_false, nobF, ofF, ty_int0, ty_int1, ty_int2, ty_int3, ty_int4, is23_int, ty_str0, ty_str1, ty_str2, ty_str3, ty_str4, is23_str, ty_lst0, ty_lst1, ty_lst2, ty_lst3, ty_lst4, is23_lst, ty_tup0, ty_tup1, ty_tup2, ty_tup3, ty_tup4, is23_tup, ty_bl0, ty_bl1, ty_bl2, ty_bl3, ty_bl4, is23_bl, ty_non0, ty_non1, ty_non2, ty_non3, ty_non4, is23_non, sub_lst, List.map_cons, atP_0, atP_3, atP_4, addx, List.length_map, e1, e2, str_at _ _ hk, put_nat _ _ _ (show j < ((splitOn 32 y).map PV.str).length by simpa using hj), set_str, hws]),
      stp (env' := [.sh (.str s), .sh (.lst ((n0 :: n1 :: n2 :: n3 :: n4 :: n5 :: rest).map .int)), .sh (.int (t : Int)), .sh (.str [c]), .ow (.lst (((splitOn 10 s).set l (joinS [32] ws)).map .str)), .sh (.int (l : Int)), .sh (.int (o : Int)), .sh (.int w), .ow (.lst (ws.map .str)), .ow (.lst (ys.map .str))]) (by simp -implicitDefEqProofs only [execs, exec, ev, evs, evC, evP, execM, List.getElem?_cons_zero, List.getElem?_cons_succ, sl_sh, sl_ow, sl_sht, sl_owt, fin_f, fin_t, cons_sh, cons_fr, cons_bo, cons_ex, cons_ok_ex, lbind_ok, lbind_ex, bind_ok, bind_ex, cond_b, kp_sh, kp_fr, kp_ex, tru_bl, tru_ex, tru_lst, tru_str, ofB_some', ofV_some, ofO_some, nox_ok, chnR_eq c_le_int, cmpR_eq c_le_int, cmpR_eq c_lt_int, cmpR_eq c_ge_int, cmpR_eq c_gt_int, cmpR_eq c_eq_int, cmpR_eq c_ne_int, cmpR_eq c_eq_str, cmpR_eq c_ne_str, cmpR_eq c_in_sgn, cmpR_eq c_nin_sgn, cmpR_eq c_is_non, cmpR_eq c_isnot_non, b_len_lst, b_len_tup, b_len_cdt, b_len_str, b_all, b_int_int, b_int_bl, b_int_str, b_str_int, b_str_str, b_isinst, b_list_lst, b_list_dct, b_tuple_lst, strK_str, m_sw, fk_sh, fk_fr, fk_ex, fl_ok, fl_ex, lfl_ok, lfl_ex, fc_b, fc_ex, seq_nx, seq_rt, seq_ex, seq_bk, seq_ct, ofFl_rt, ofFl_nx, ofFl_ex, turn_nx, turn_ct, turn_bk, turn_rt, turn_ex, it_lst, it_tup, it_str, it_rng1, it_rng2, it_enum, cmpR_eq c_ne_bl, cmpR_eq c_eq_bl, List.length_cons, List.length_nil, Nat.zero_add, Nat.reduceAdd, Nat.reduceLeDiff, BEq.rfl, clr, slots, Option.map, tgB, List.set_cons_zero, List.set_cons_succ, calR, toSl, Bool.false_eq_true, if_false, if_true, rtlR, frzL, frz1, List.foldl_cons, List.foldl_nil, owOf, ownK, lstK, appP, owS, raiR, tupR, lstR, Bool.not_true, Bool.not_false, nobF, ofF, ty_int0, ty_int1, ty_int2, ty_int3, ty_int4, is23_int, ty_str0, ty_str1, ty_str2, ty_str3, ty_str4, is23_str, ty_lst0, ty_lst1, ty_lst2, ty_lst3, ty_lst4, is23_lst, ty_tup0, ty_tup1, ty_tup2, ty_tup3, ty_tup4, is23_tup, ty_bl0, ty_bl1, ty_bl2, ty_bl3, ty_bl4, is23_bl, ty_non0, ty_non1, ty_non2, ty_non3, ty_non4, is23_non, m_join 32 ws (show lw ws ≤ SL by omega), put_nat _ _ _ (show l < ((splitOn 10 s).map PV.str).length by simpa using hl), set_str])]
    exact txF_ofFl (ret_txF ((txt_join 10 (txs_ow _ rfl (Nat.le_refl _)) (by omega)).le (by omega)))
theorem fcx (P' : EC) (hs : s.length ≤ 1000000) : isTxt (ofFl (execs P' b24 [.sh (.str s), .sh (.lst ((n0 :: n1 :: n2 :: n3 :: n4 :: n5 :: rest).map .int)), .un, .un, .un, .un, .un, .un, .un, .un])) (4 * s.length + 200) := by
  obtain ⟨t, l, o, w, c, h1, h2, h3, h4⟩ := chHead P' s n0 n1 n2 n3 n4 n5 rest hs
  rw [h4]
  exact chTail P' s n0 n1 n2 n3 n4 n5 rest hs t l o w c h2 h3
end
theorem fcd (d : Nat) (s : List Nat) (xs : List Int) (hx : 6 ≤ xs.length) (hs : s.length ≤ 1000000) : ∃ t : List Nat, callF P (d + 1) 24 [.str s, .lst (xs.map .int)] = .ok .sh (.str t) ∧ t.length ≤ 4 * s.length + 200 := by
  match xs, hx with
  | n0 :: n1 :: n2 :: n3 :: n4 :: n5 :: rest, _ =>
    rw [e24]
    exact fcx s n0 n1 n2 n3 n4 n5 rest _ hs
end Wk81
set_option Elab.async false
set_option linter.all false
set_option maxRecDepth 100000
set_option maxHeartbeats 2000000
namespace Wk81
open EV
theorem f11 (d : Nat) (b : Bool) (i : Int) : callF P (d + 1) 11 [.bl b, .int i] = if b = true then .ex ⟨3, some (.int i)⟩ else .ok .sh .non := by
  rw [e11]
  cases b <;> simp -implicitDefEqProofs only [b11, execs, exec, ev, evs, evC, evP, execM, List.getElem?_cons_zero, List.getElem?_cons_succ, sl_sh, sl_ow, sl_sht, sl_owt, fin_f, fin_t, cons_sh, cons_fr, cons_bo, cons_ex, cons_ok_ex, lbind_ok, lbind_ex, bind_ok, bind_ex, cond_b, kp_sh, kp_fr, kp_ex, tru_bl, tru_ex, tru_lst, tru_str, ofB_some', ofV_some, ofO_some, nox_ok, chnR_eq c_le_int, cmpR_eq c_le_int, cmpR_eq c_lt_int, cmpR_eq c_ge_int, cmpR_eq c_gt_int, cmpR_eq c_eq_int, cmpR_eq c_ne_int, cmpR_eq c_eq_str, cmpR_eq c_ne_str, cmpR_eq c_in_sgn, cmpR_eq c_nin_sgn, cmpR_eq c_is_non, cmpR_eq c_isnot_non, b_len_lst, b_len_tup, b_len_cdt, b_len_str, b_all, b_int_int, b_int_bl, b_int_str, b_str_int, b_str_str, b_isinst, b_list_lst, b_list_dct, b_tuple_lst, strK_str, m_sw, fk_sh, fk_fr, fk_ex, fl_ok, fl_ex, lfl_ok, lfl_ex, fc_b, fc_ex, seq_nx, seq_rt, seq_ex, seq_bk, seq_ct, ofFl_rt, ofFl_nx, ofFl_ex, turn_nx, turn_ct, turn_bk, turn_rt, turn_ex, it_lst, it_tup, it_str, it_rng1, it_rng2, it_enum, cmpR_eq c_ne_bl, cmpR_eq c_eq_bl, List.length_cons, List.length_nil, Nat.zero_add, Nat.reduceAdd, Nat.reduceLeDiff, BEq.rfl, clr, slots, Option.map, tgB, List.set_cons_zero, List.set_cons_succ, calR, toSl, Bool.false_eq_true, if_false, if_true, rtlR, frzL, frz1, List.foldl_cons, List.foldl_nil, owOf, ownK, lstK, appP, owS, raiR, tupR, lstR, Bool.not_true, Bool.not_false, nobF, ofF, ty_int0, ty_int1, ty_int2, ty_int3, ty_int4, is23_int, ty_str0, ty_str1, ty_str2, ty_str3, ty_str4, is23_str, ty_lst0, ty_lst1, ty_lst2, ty_lst3, ty_lst4, is23_lst, ty_tup0, ty_tup1, ty_tup2, ty_tup3, ty_tup4, is23_tup, ty_bl0, ty_bl1, ty_bl2, ty_bl3, ty_bl4, is23_bl, ty_non0, ty_non1, ty_non2, ty_non3, ty_non4, is23_non]
theorem f2g (d : Nat) (os : List (Option Nat)) : callF P (d + 1) 2 [.lst (os.map oN)] = .ok .sh (if os.any isNone' then .non else .lst (os.map oN)) := by
  rw [e2]
  cases h : os.any isNone' <;> simp -implicitDefEqProofs only [b2, execs, exec, ev, evs, evC, evP, execM, List.getElem?_cons_zero, List.getElem?_cons_succ, sl_sh, sl_ow, sl_sht, sl_owt, fin_f, fin_t, cons_sh, cons_fr, cons_bo, cons_ex, cons_ok_ex, lbind_ok, lbind_ex, bind_ok, bind_ex, cond_b, kp_sh, kp_fr, kp_ex, tru_bl, tru_ex, tru_lst, tru_str, ofB_some', ofV_some, ofO_some, nox_ok, chnR_eq c_le_int, cmpR_eq c_le_int, cmpR_eq c_lt_int, cmpR_eq c_ge_int, cmpR_eq c_gt_int, cmpR_eq c_eq_int, cmpR_eq c_ne_int, cmpR_eq c_eq_str, cmpR_eq c_ne_str, cmpR_eq c_in_sgn, cmpR_eq c_nin_sgn, cmpR_eq c_is_non, cmpR_eq c_isnot_non, b_len_lst, b_len_tup, b_len_cdt, b_len_str, b_all, b_int_int, b_int_bl, b_int_str, b_str_int, b_str_str, b_isinst, b_list_lst, b_list_dct, b_tuple_lst, strK_str, m_sw, fk_sh, fk_fr, fk_ex, fl_ok, fl_ex, lfl_ok, lfl_ex, fc_b, fc_ex, seq_nx, seq_rt, seq_ex, seq_bk, seq_ct, ofFl_rt, ofFl_nx, ofFl_ex, turn_nx, turn_ct, turn_bk, turn_rt, turn_ex, it_lst, it_tup, it_str, it_rng1, it_rng2, it_enum, cmpR_eq c_ne_bl, cmpR_eq c_eq_bl, List.length_cons, List.length_nil, Nat.zero_add, Nat.reduceAdd, Nat.reduceLeDiff, BEq.rfl, clr, slots, Option.map, tgB, List.set_cons_zero, List.set_cons_succ, calR, toSl, Bool.false_eq_true, if_false, if_true, rtlR, frzL, frz1, List.foldl_cons, List.foldl_nil, owOf, ownK, lstK, appP, owS, raiR, tupR, lstR, Bool.not_true, Bool.not_false, nobF, ofF, ty_int0, ty_int1, ty_int2, ty_int3, ty_int4, is23_int, ty_str0, ty_str1, ty_str2, ty_str3, ty_str4, is23_str, ty_lst0, ty_lst1, ty_lst2, ty_lst3, ty_lst4, is23_lst, ty_tup0, ty_tup1, ty_tup2, ty_tup3, ty_tup4, is23_tup, ty_bl0, ty_bl1, ty_bl2, ty_bl3, ty_bl4, is23_bl, ty_non0, ty_non1, ty_non2, ty_non3, ty_non4, is23_non, cmpR_eq (nonIn os), h]
theorem f3 (d : Nat) (ss : List (List Nat)) : callF P (d + 3) 3 [.lst (ss.map .str)] = .ok .sh (oL (numsOf ss)) := by
  rw [e3]
  have hlc := lc_map (X := ⟨callF P (d + 2), par, 4⟩) (env := [.sh (.lst (ss.map .str)), .un]) (tg := .v 1) (kk := .seq) (src := .cons (.loc 0) .nil) (elt := .call 1 (.cons (.loc 1) .nil)) PV.str (fun s => oN (rdNum s)) ss (nb := true) (vs := [.lst (ss.map .str)]) (by simp -implicitDefEqProofs only [execs, exec, ev, evs, evC, evP, execM, List.getElem?_cons_zero, List.getElem?_cons_succ, sl_sh, sl_ow, sl_sht, sl_owt, fin_f, fin_t, cons_sh, cons_fr, cons_bo, cons_ex, cons_ok_ex, lbind_ok, lbind_ex, bind_ok, bind_ex, cond_b, kp_sh, kp_fr, kp_ex, tru_bl, tru_ex, tru_lst, tru_str, ofB_some', ofV_some, ofO_some, nox_ok, chnR_eq c_le_int, cmpR_eq c_le_int, cmpR_eq c_lt_int, cmpR_eq c_ge_int, cmpR_eq c_gt_int, cmpR_eq c_eq_int, cmpR_eq c_ne_int, cmpR_eq c_eq_str, cmpR_eq c_ne_str, cmpR_eq c_in_sgn, cmpR_eq c_nin_sgn, cmpR_eq c_is_non, cmpR_eq c_isnot_non, b_len_lst, b_len_tup, b_len_cdt, b_len_str, b_all, b_int_int, b_int_bl, b_int_str, b_str_int, b_str_str, b_isinst, b_list_lst, b_list_dct, b_tuple_lst, strK_str, m_sw, fk_sh, fk_fr, fk_ex, fl_ok, fl_ex, lfl_ok, lfl_ex, fc_b, fc_ex, seq_nx, seq_rt, seq_ex, seq_bk, seq_ct, ofFl_rt, ofFl_nx, ofFl_ex, turn_nx, turn_ct, turn_bk, turn_rt, turn_ex, it_lst, it_tup, it_str, it_rng1, it_rng2, it_enum, cmpR_eq c_ne_bl, cmpR_eq c_eq_bl, List.length_cons, List.length_nil, Nat.zero_add, Nat.reduceAdd, Nat.reduceLeDiff, BEq.rfl, clr, slots, Option.map, tgB, List.set_cons_zero, List.set_cons_succ, calR, toSl, Bool.false_eq_true, if_false, if_true, rtlR, frzL, frz1, List.foldl_cons, List.foldl_nil, owOf, ownK, lstK, appP, owS, raiR, tupR, lstR, Bool.not_true, Bool.not_false, nobF, ofF, ty_int0, ty_int1, ty_int2, ty_int3, ty_int4, is23_int, ty_str0, ty_str1, ty_str2, ty_str3, ty_str4, is23_str, ty_lst0, ty_lst1, ty_lst2, ty_lst3, ty_lst4, is23_lst, ty_tup0, ty_tup1, ty_tup2, ty_tup3, ty_tup4, is23_tup, ty_bl0, ty_bl1, ty_bl2, ty_bl3, ty_bl4, is23_bl, ty_non0, ty_non1, ty_non2, ty_non3, ty_non4, is23_non]) it_lst (fun s hs => ⟨[.sh (.lst (ss.map .str)), .sh (.str s)], rfl, .inl (by simp -implicitDefEqProofs only [execs, exec, ev, evs, evC, evP, execM, List.getElem?_cons_zero, List.getElem?_cons_succ, sl_sh, sl_ow, sl_sht, sl_owt, fin_f, fin_t, cons_sh, cons_fr, cons_bo, cons_ex, cons_ok_ex, lbind_ok, lbind_ex, bind_ok, bind_ex, cond_b, kp_sh, kp_fr, kp_ex, tru_bl, tru_ex, tru_lst, tru_str, ofB_some', ofV_some, ofO_some, nox_ok, chnR_eq c_le_int, cmpR_eq c_le_int, cmpR_eq c_lt_int, cmpR_eq c_ge_int, cmpR_eq c_gt_int, cmpR_eq c_eq_int, cmpR_eq c_ne_int, cmpR_eq c_eq_str, cmpR_eq c_ne_str, cmpR_eq c_in_sgn, cmpR_eq c_nin_sgn, cmpR_eq c_is_non, cmpR_eq c_isnot_non, b_len_lst, b_len_tup, b_len_cdt, b_len_str, b_all, b_int_int, b_int_bl, b_int_str, b_str_int, b_str_str, b_isinst, b_list_lst, b_list_dct, b_tuple_lst, strK_str, m_sw, fk_sh, fk_fr, fk_ex, fl_ok, fl_ex, lfl_ok, lfl_ex, fc_b, fc_ex, seq_nx, seq_rt, seq_ex, seq_bk, seq_ct, ofFl_rt, ofFl_nx, ofFl_ex, turn_nx, turn_ct, turn_bk, turn_rt, turn_ex, it_lst, it_tup, it_str, it_rng1, it_rng2, it_enum, cmpR_eq c_ne_bl, cmpR_eq c_eq_bl, List.length_cons, List.length_nil, Nat.zero_add, Nat.reduceAdd, Nat.reduceLeDiff, BEq.rfl, clr, slots, Option.map, tgB, List.set_cons_zero, List.set_cons_succ, calR, toSl, Bool.false_eq_true, if_false, if_true, rtlR, frzL, frz1, List.foldl_cons, List.foldl_nil, owOf, ownK, lstK, appP, owS, raiR, tupR, lstR, Bool.not_true, Bool.not_false, nobF, ofF, ty_int0, ty_int1, ty_int2, ty_int3, ty_int4, is23_int, ty_str0, ty_str1, ty_str2, ty_str3, ty_str4, is23_str, ty_lst0, ty_lst1, ty_lst2, ty_lst3, ty_lst4, is23_lst, ty_tup0, ty_tup1, ty_tup2, ty_tup3, ty_tup4, is23_tup, ty_bl0, ty_bl1, ty_bl2, ty_bl3, ty_bl4, is23_bl, ty_non0, ty_non1, ty_non2, ty_non3, ty_non4, is23_non, f1])⟩)
  have e : (ss.map fun s => oN (rdNum s)) = (ss.map rdNum).map oN := by rw [List.map_map]; rfl
  rw [e] at hlc
  have h2 := f2g (d + 1) (ss.map rdNum)
  unfold b3
  generalize IR.lc (.v 1) .seq (.cons (.loc 0) .nil) .nil (.call 1 (.cons (.loc 1) .nil)) = lc at hlc
  simp -implicitDefEqProofs only [execs, exec, ev, evs, evC, evP, execM, List.getElem?_cons_zero, List.getElem?_cons_succ, sl_sh, sl_ow, sl_sht, sl_owt, fin_f, fin_t, cons_sh, cons_fr, cons_bo, cons_ex, cons_ok_ex, lbind_ok, lbind_ex, bind_ok, bind_ex, cond_b, kp_sh, kp_fr, kp_ex, tru_bl, tru_ex, tru_lst, tru_str, ofB_some', ofV_some, ofO_some, nox_ok, chnR_eq c_le_int, cmpR_eq c_le_int, cmpR_eq c_lt_int, cmpR_eq c_ge_int, cmpR_eq c_gt_int, cmpR_eq c_eq_int, cmpR_eq c_ne_int, cmpR_eq c_eq_str, cmpR_eq c_ne_str, cmpR_eq c_in_sgn, cmpR_eq c_nin_sgn, cmpR_eq c_is_non, cmpR_eq c_isnot_non, b_len_lst, b_len_tup, b_len_cdt, b_len_str, b_all, b_int_int, b_int_bl, b_int_str, b_str_int, b_str_str, b_isinst, b_list_lst, b_list_dct, b_tuple_lst, strK_str, m_sw, fk_sh, fk_fr, fk_ex, fl_ok, fl_ex, lfl_ok, lfl_ex, fc_b, fc_ex, seq_nx, seq_rt, seq_ex, seq_bk, seq_ct, ofFl_rt, ofFl_nx, ofFl_ex, turn_nx, turn_ct, turn_bk, turn_rt, turn_ex, it_lst, it_tup, it_str, it_rng1, it_rng2, it_enum, cmpR_eq c_ne_bl, cmpR_eq c_eq_bl, List.length_cons, List.length_nil, Nat.zero_add, Nat.reduceAdd, Nat.reduceLeDiff, BEq.rfl, clr, slots, Option.map, tgB, List.set_cons_zero, List.set_cons_succ, calR, toSl, Bool.false_eq_true, if_false, if_true, rtlR, frzL, frz1, List.foldl_cons, List.foldl_nil, owOf, ownK, lstK, appP, owS, raiR, tupR, lstR, Bool.not_true, Bool.not_false, nobF, ofF, ty_int0, ty_int1, ty_int2, ty_int3, ty_int4, is23_int, ty_str0, ty_str1, ty_str2, ty_str3, ty_str4, is23_str, ty_lst0, ty_lst1, ty_lst2, ty_lst3, ty_lst4, is23_lst, ty_tup0, ty_tup1, ty_tup2, ty_tup3, ty_tup4, is23_tup, ty_bl0, ty_bl1, ty_bl2, ty_bl3, ty_bl4, is23_bl, ty_non0, ty_non1, ty_non2, ty_non3, ty_non4, is23_non, hlc, h2]
  rw [numsOf_map]
  cases h : (ss.map rdNum).any isNone'
  · simp -implicitDefEqProofs only [Bool.false_eq_true, if_false, oL, encL]
    rw [oN_all _ h]
  · simp -implicitDefEqProofs only [if_true, oL]
end Wk81
set_option Elab.async false
set_option linter.all false
set_option maxRecDepth 100000
set_option maxHeartbeats 2000000
namespace Wk81
open EV
/-- a line read: the modulus and the weights -/
def wl1 : List (List Nat) → Option (Nat × List Nat)
  | a :: b :: c :: r => if b = [58] then match rdNum a, numsOf (c :: r) with
    | some m, some l => some (m, l)
    | _, _ => none
    else none
  | _ => none
def wlOf (s : List Nat) : Option (Nat × List Nat) := wl1 (splitOn 32 s)
def wV (p : Nat × List Nat) : PV := .tup [.int (p.1 : Int), encL p.2]
def oW : Option (Nat × List Nat) → PV
  | some p => wV p
  | none => .non
theorem isNon_oW (o : Option (Nat × List Nat)) : isNonP (oW o) = isNone' o := by cases o <;> rfl
/-- a text read: the weights, or the number of a bad line -/
inductive Rd | yes (p : Nat × List Nat) | no (i : Nat)
def rdRs : Rd → Rs
  | .yes p => .ok .sh (wV p)
  | .no i => .ex ⟨3, some (.int i)⟩
def rdPV : Rd → PV
  | .yes p => .tup [.bl true, wV p]
  | .no i => .tup [.bl false, .int i]
def areW (p : Nat × List Nat) : Bool := if (!(decide (2 ≤ p.1) && decide (p.1 ≤ 40)) || decide (12 < p.2.length)) = true then false else (p.2.all fun x => decide (x < p.1)) && decide (p.1 * p.2.length ≤ 120)
def rdW3 (p : Nat × List Nat) : Rd := if areW p = true then .yes p else .no 0
def rdW2 (ps : List (Nat × List Nat)) : Rd := if 1 < ps.length then .no 1 else rdW3 (ps.getD 0 (0, []))
def rdW1 (ls : List (List Nat)) : Rd := match (ls.map wlOf).findIdx? isNone' with
  | some i => .no i
  | none => rdW2 (ls.map fun l => (wlOf l).getD (0, []))
def rdW (s : List Nat) : Rd := rdW1 (splitOn 10 s)
theorem wl1_y (a c : List Nat) (r : List (List Nat)) : wl1 (a :: [58] :: c :: r) = match rdNum a, numsOf (c :: r) with
    | some m, some l => some (m, l)
    | _, _ => none := by
  unfold wl1
  simp -implicitDefEqProofs only [if_true]
theorem wl1_n (a b c : List Nat) (r : List (List Nat)) (h : b ≠ [58]) : wl1 (a :: b :: c :: r) = none := by
  unfold wl1
  simp only
  rw [if_neg h]
theorem f13 (d : Nat) (s : List Nat) (hs : s.length ≤ 7000000) : callF P (d + 4) 13 [.str s] = .ok .sh (oW (wlOf s)) := by
  rw [e13]
  have h7 := f5 (d + 2) s
  have hlen := splitLen 32 s
  unfold wlOf
  match hs : splitOn 32 s with
  | [] => rw [hs] at h7; simp -implicitDefEqProofs only [b13, execs, exec, ev, evs, evC, evP, execM, List.getElem?_cons_zero, List.getElem?_cons_succ, sl_sh, sl_ow, sl_sht, sl_owt, fin_f, fin_t, cons_sh, cons_fr, cons_bo, cons_ex, cons_ok_ex, lbind_ok, lbind_ex, bind_ok, bind_ex, cond_b, kp_sh, kp_fr, kp_ex, tru_bl, tru_ex, tru_lst, tru_str, ofB_some', ofV_some, ofO_some, nox_ok, chnR_eq c_le_int, cmpR_eq c_le_int, cmpR_eq c_lt_int, cmpR_eq c_ge_int, cmpR_eq c_gt_int, cmpR_eq c_eq_int, cmpR_eq c_ne_int, cmpR_eq c_eq_str, cmpR_eq c_ne_str, cmpR_eq c_in_sgn, cmpR_eq c_nin_sgn, cmpR_eq c_is_non, cmpR_eq c_isnot_non, b_len_lst, b_len_tup, b_len_cdt, b_len_str, b_all, b_int_int, b_int_bl, b_int_str, b_str_int, b_str_str, b_isinst, b_list_lst, b_list_dct, b_tuple_lst, strK_str, m_sw, fk_sh, fk_fr, fk_ex, fl_ok, fl_ex, lfl_ok, lfl_ex, fc_b, fc_ex, seq_nx, seq_rt, seq_ex, seq_bk, seq_ct, ofFl_rt, ofFl_nx, ofFl_ex, turn_nx, turn_ct, turn_bk, turn_rt, turn_ex, it_lst, it_tup, it_str, it_rng1, it_rng2, it_enum, cmpR_eq c_ne_bl, cmpR_eq c_eq_bl, List.length_cons, List.length_nil, Nat.zero_add, Nat.reduceAdd, Nat.reduceLeDiff, BEq.rfl, clr, slots, Option.map, tgB, List.set_cons_zero, List.set_cons_succ, calR, toSl, Bool.false_eq_true, if_false, if_true, rtlR, frzL, frz1, List.foldl_cons, List.foldl_nil, owOf, ownK, lstK, appP, owS, raiR, tupR, lstR, Bool.not_true, Bool.not_false, nobF, ofF, ty_int0, ty_int1, ty_int2, ty_int3, ty_int4, is23_int, ty_str0, ty_str1, ty_str2, ty_str3, ty_str4, is23_str, ty_lst0, ty_lst1, ty_lst2, ty_lst3, ty_lst4, is23_lst, ty_tup0, ty_tup1, ty_tup2, ty_tup3, ty_tup4, is23_tup, ty_bl0, ty_bl1, ty_bl2, ty_bl3, ty_bl4, is23_bl, ty_non0, ty_non1, ty_non2, ty_non3, ty_non4, is23_non, h7, matP, lstOf, List.map, List.length_nil, List.length_cons, wl1, oW]; try rfl
  | [a] => rw [hs] at h7; simp -implicitDefEqProofs only [b13, execs, exec, ev, evs, evC, evP, execM, List.getElem?_cons_zero, List.getElem?_cons_succ, sl_sh, sl_ow, sl_sht, sl_owt, fin_f, fin_t, cons_sh, cons_fr, cons_bo, cons_ex, cons_ok_ex, lbind_ok, lbind_ex, bind_ok, bind_ex, cond_b, kp_sh, kp_fr, kp_ex, tru_bl, tru_ex, tru_lst, tru_str, ofB_some', ofV_some, ofO_some, nox_ok, chnR_eq c_le_int, cmpR_eq c_le_int, cmpR_eq c_lt_int, cmpR_eq c_ge_int, cmpR_eq c_gt_int, cmpR_eq c_eq_int, cmpR_eq c_ne_int, cmpR_eq c_eq_str, cmpR_eq c_ne_str, cmpR_eq c_in_sgn, cmpR_eq c_nin_sgn, cmpR_eq c_is_non, cmpR_eq c_isnot_non, b_len_lst, b_len_tup, b_len_cdt, b_len_str, b_all, b_int_int, b_int_bl, b_int_str, b_str_int, b_str_str, b_isinst, b_list_lst, b_list_dct, b_tuple_lst, strK_str, m_sw, fk_sh, fk_fr, fk_ex, fl_ok, fl_ex, lfl_ok, lfl_ex, fc_b, fc_ex, seq_nx, seq_rt, seq_ex, seq_bk, seq_ct, ofFl_rt, ofFl_nx, ofFl_ex, turn_nx, turn_ct, turn_bk, turn_rt, turn_ex, it_lst, it_tup, it_str, it_rng1, it_rng2, it_enum, cmpR_eq c_ne_bl, cmpR_eq c_eq_bl, List.length_cons, List.length_nil, Nat.zero_add, Nat.reduceAdd, Nat.reduceLeDiff, BEq.rfl, clr, slots, Option.map, tgB, List.set_cons_zero, List.set_cons_succ, calR, toSl, Bool.false_eq_true, if_false, if_true, rtlR, frzL, frz1, List.foldl_cons, List.foldl_nil, owOf, ownK, lstK, appP, owS, raiR, tupR, lstR, Bool.not_true, Bool.not_false, nobF, ofF, ty_int0, ty_int1, ty_int2, ty_int3, ty_int4, is23_int, ty_str0, ty_str1, ty_str2, ty_str3, ty_str4, is23_str, ty_lst0, ty_lst1, ty_lst2, ty_lst3, ty_lst4, is23_lst, ty_tup0, ty_tup1, ty_tup2, ty_tup3, ty_tup4, is23_tup, ty_bl0, ty_bl1, ty_bl2, ty_bl3, ty_bl4, is23_bl, ty_non0, ty_non1, ty_non2, ty_non3, ty_non4, is23_non, h7, matP, lstOf, List.map, List.length_nil, List.length_cons, wl1, oW]; try rfl
  | [a, b] => rw [hs] at h7; simp -implicitDefEqProofs only [b13, execs, exec, ev, evs, evC, evP, execM, List.getElem?_cons_zero, List.getElem?_cons_succ, sl_sh, sl_ow, sl_sht, sl_owt, fin_f, fin_t, cons_sh, cons_fr, cons_bo, cons_ex, cons_ok_ex, lbind_ok, lbind_ex, bind_ok, bind_ex, cond_b, kp_sh, kp_fr, kp_ex, tru_bl, tru_ex, tru_lst, tru_str, ofB_some', ofV_some, ofO_some, nox_ok, chnR_eq c_le_int, cmpR_eq c_le_int, cmpR_eq c_lt_int, cmpR_eq c_ge_int, cmpR_eq c_gt_int, cmpR_eq c_eq_int, cmpR_eq c_ne_int, cmpR_eq c_eq_str, cmpR_eq c_ne_str, cmpR_eq c_in_sgn, cmpR_eq c_nin_sgn, cmpR_eq c_is_non, cmpR_eq c_isnot_non, b_len_lst, b_len_tup, b_len_cdt, b_len_str, b_all, b_int_int, b_int_bl, b_int_str, b_str_int, b_str_str, b_isinst, b_list_lst, b_list_dct, b_tuple_lst, strK_str, m_sw, fk_sh, fk_fr, fk_ex, fl_ok, fl_ex, lfl_ok, lfl_ex, fc_b, fc_ex, seq_nx, seq_rt, seq_ex, seq_bk, seq_ct, ofFl_rt, ofFl_nx, ofFl_ex, turn_nx, turn_ct, turn_bk, turn_rt, turn_ex, it_lst, it_tup, it_str, it_rng1, it_rng2, it_enum, cmpR_eq c_ne_bl, cmpR_eq c_eq_bl, List.length_cons, List.length_nil, Nat.zero_add, Nat.reduceAdd, Nat.reduceLeDiff, BEq.rfl, clr, slots, Option.map, tgB, List.set_cons_zero, List.set_cons_succ, calR, toSl, Bool.false_eq_true, if_false, if_true, rtlR, frzL, frz1, List.foldl_cons, List.foldl_nil, owOf, ownK, lstK, appP, owS, raiR, tupR, lstR, Bool.not_true, Bool.not_false, nobF, ofF, ty_int0, ty_int1, ty_int2, ty_int3, ty_int4, is23_int, ty_str0, ty_str1, ty_str2, ty_str3, ty_str4, is23_str, ty_lst0, ty_lst1, ty_lst2, ty_lst3, ty_lst4, is23_lst, ty_tup0, ty_tup1, ty_tup2, ty_tup3, ty_tup4, is23_tup, ty_bl0, ty_bl1, ty_bl2, ty_bl3, ty_bl4, is23_bl, ty_non0, ty_non1, ty_non2, ty_non3, ty_non4, is23_non, h7, matP, lstOf, List.map, List.length_nil, List.length_cons, wl1, oW]; try rfl
  | a :: b :: c :: r =>
    rw [hs] at h7 hlen
    have hl3 : 3 ≤ ((a :: b :: c :: r).map PV.str).length := by simp
    have ha := f1 (d + 1) a
    have hb := f3 d (c :: r)
    have hadd : binP .add (.lst [.str c]) (.lst (r.map .str)) = .ok .fr (.lst ((c :: r).map .str)) := by
      have : (LL : Nat) = 16777216 := rfl
      simp -implicitDefEqProofs only [List.length_cons] at hlen
      exact addL (a := [.str c]) (b := r.map .str) (by simp; omega)
    have hm : matP (.seq [(none, some 1), (some [58], none), (none, some 2)] (some 3)) (.lst ((a :: b :: c :: r).map PV.str)) [.sh (.str s), .un, .un, .un, .un, .un] = if [58] = b then some (some [.sh (.str s), .sh (.str a), .sh (.str c), .ow (.lst (r.map .str)), .un, .un]) else some none := by
      by_cases h : [58] = b
      · subst h
        simp [matP, lstOf, matS]
      · simp [matP, lstOf, matS, h]
    generalize (a :: b :: c :: r).map PV.str = L at h7 hm
    by_cases h : [58] = b
    · rw [if_pos h] at hm
      subst h
      rw [wl1_y]
      cases h1 : rdNum a with
      | none =>
        rw [h1] at ha
        simp -implicitDefEqProofs only [b13, execs, exec, ev, evs, evC, evP, execM, List.getElem?_cons_zero, List.getElem?_cons_succ, sl_sh, sl_ow, sl_sht, sl_owt, fin_f, fin_t, cons_sh, cons_fr, cons_bo, cons_ex, cons_ok_ex, lbind_ok, lbind_ex, bind_ok, bind_ex, cond_b, kp_sh, kp_fr, kp_ex, tru_bl, tru_ex, tru_lst, tru_str, ofB_some', ofV_some, ofO_some, nox_ok, chnR_eq c_le_int, cmpR_eq c_le_int, cmpR_eq c_lt_int, cmpR_eq c_ge_int, cmpR_eq c_gt_int, cmpR_eq c_eq_int, cmpR_eq c_ne_int, cmpR_eq c_eq_str, cmpR_eq c_ne_str, cmpR_eq c_in_sgn, cmpR_eq c_nin_sgn, cmpR_eq c_is_non, cmpR_eq c_isnot_non, b_len_lst, b_len_tup, b_len_cdt, b_len_str, b_all, b_int_int, b_int_bl, b_int_str, b_str_int, b_str_str, b_isinst, b_list_lst, b_list_dct, b_tuple_lst, strK_str, m_sw, fk_sh, fk_fr, fk_ex, fl_ok, fl_ex, lfl_ok, lfl_ex, fc_b, fc_ex, seq_nx, seq_rt, seq_ex, seq_bk, seq_ct, ofFl_rt, ofFl_nx, ofFl_ex, turn_nx, turn_ct, turn_bk, turn_rt, turn_ex, it_lst, it_tup, it_str, it_rng1, it_rng2, it_enum, cmpR_eq c_ne_bl, cmpR_eq c_eq_bl, List.length_cons, List.length_nil, Nat.zero_add, Nat.reduceAdd, Nat.reduceLeDiff, BEq.rfl, clr, slots, Option.map, tgB, List.set_cons_zero, List.set_cons_succ, calR, toSl, Bool.false_eq_true, if_false, if_true, rtlR, frzL, frz1, List.foldl_cons, List.foldl_nil, owOf, ownK, lstK, appP, owS, raiR, tupR, lstR, Bool.not_true, Bool.not_false, nobF, ofF, ty_int0, ty_int1, ty_int2, ty_int3, ty_int4, is23_int, ty_str0, ty_str1, ty_str2, ty_str3, ty_str4, is23_str, ty_lst0, ty_lst1, ty_lst2, ty_lst3, ty_lst4, is23_lst, ty_tup0, ty_tup1, ty_tup2, ty_tup3, ty_tup4, is23_tup, ty_bl0, ty_bl1, ty_bl2, ty_bl3, ty_bl4, is23_bl, ty_non0, ty_non1, ty_non2, ty_non3, ty_non4, is23_non, h7, hm, ha, hadd, hb, oN, oW, parR, execM]
        cases numsOf (c :: r) <;> rfl
      | some m =>
        rw [h1] at ha
        cases h2 : numsOf (c :: r) with
        | none =>
          rw [h2] at hb
          simp -implicitDefEqProofs only [b13, execs, exec, ev, evs, evC, evP, execM, List.getElem?_cons_zero, List.getElem?_cons_succ, sl_sh, sl_ow, sl_sht, sl_owt, fin_f, fin_t, cons_sh, cons_fr, cons_bo, cons_ex, cons_ok_ex, lbind_ok, lbind_ex, bind_ok, bind_ex, cond_b, kp_sh, kp_fr, kp_ex, tru_bl, tru_ex, tru_lst, tru_str, ofB_some', ofV_some, ofO_some, nox_ok, chnR_eq c_le_int, cmpR_eq c_le_int, cmpR_eq c_lt_int, cmpR_eq c_ge_int, cmpR_eq c_gt_int, cmpR_eq c_eq_int, cmpR_eq c_ne_int, cmpR_eq c_eq_str, cmpR_eq c_ne_str, cmpR_eq c_in_sgn, cmpR_eq c_nin_sgn, cmpR_eq c_is_non, cmpR_eq c_isnot_non, b_len_lst, b_len_tup, b_len_cdt, b_len_str, b_all, b_int_int, b_int_bl, b_int_str, b_str_int, b_str_str, b_isinst, b_list_lst, b_list_dct, b_tuple_lst, strK_str, m_sw, fk_sh, fk_fr, fk_ex, fl_ok, fl_ex, lfl_ok, lfl_ex, fc_b, fc_ex, seq_nx, seq_rt, seq_ex, seq_bk, seq_ct, ofFl_rt, ofFl_nx, ofFl_ex, turn_nx, turn_ct, turn_bk, turn_rt, turn_ex, it_lst, it_tup, it_str, it_rng1, it_rng2, it_enum, cmpR_eq c_ne_bl, cmpR_eq c_eq_bl, List.length_cons, List.length_nil, Nat.zero_add, Nat.reduceAdd, Nat.reduceLeDiff, BEq.rfl, clr, slots, Option.map, tgB, List.set_cons_zero, List.set_cons_succ, calR, toSl, Bool.false_eq_true, if_false, if_true, rtlR, frzL, frz1, List.foldl_cons, List.foldl_nil, owOf, ownK, lstK, appP, owS, raiR, tupR, lstR, Bool.not_true, Bool.not_false, nobF, ofF, ty_int0, ty_int1, ty_int2, ty_int3, ty_int4, is23_int, ty_str0, ty_str1, ty_str2, ty_str3, ty_str4, is23_str, ty_lst0, ty_lst1, ty_lst2, ty_lst3, ty_lst4, is23_lst, ty_tup0, ty_tup1, ty_tup2, ty_tup3, ty_tup4, is23_tup, ty_bl0, ty_bl1, ty_bl2, ty_bl3, ty_bl4, is23_bl, ty_non0, ty_non1, ty_non2, ty_non3, ty_non4, is23_non, h7, hm, ha, hadd, hb, oN, oL, oW, parR, execM]
          try rfl
        | some l =>
          rw [h2] at hb
          simp -implicitDefEqProofs only [b13, execs, exec, ev, evs, evC, evP, execM, List.getElem?_cons_zero, List.getElem?_cons_succ, sl_sh, sl_ow, sl_sht, sl_owt, fin_f, fin_t, cons_sh, cons_fr, cons_bo, cons_ex, cons_ok_ex, lbind_ok, lbind_ex, bind_ok, bind_ex, cond_b, kp_sh, kp_fr, kp_ex, tru_bl, tru_ex, tru_lst, tru_str, ofB_some', ofV_some, ofO_some, nox_ok, chnR_eq c_le_int, cmpR_eq c_le_int, cmpR_eq c_lt_int, cmpR_eq c_ge_int, cmpR_eq c_gt_int, cmpR_eq c_eq_int, cmpR_eq c_ne_int, cmpR_eq c_eq_str, cmpR_eq c_ne_str, cmpR_eq c_in_sgn, cmpR_eq c_nin_sgn, cmpR_eq c_is_non, cmpR_eq c_isnot_non, b_len_lst, b_len_tup, b_len_cdt, b_len_str, b_all, b_int_int, b_int_bl, b_int_str, b_str_int, b_str_str, b_isinst, b_list_lst, b_list_dct, b_tuple_lst, strK_str, m_sw, fk_sh, fk_fr, fk_ex, fl_ok, fl_ex, lfl_ok, lfl_ex, fc_b, fc_ex, seq_nx, seq_rt, seq_ex, seq_bk, seq_ct, ofFl_rt, ofFl_nx, ofFl_ex, turn_nx, turn_ct, turn_bk, turn_rt, turn_ex, it_lst, it_tup, it_str, it_rng1, it_rng2, it_enum, cmpR_eq c_ne_bl, cmpR_eq c_eq_bl, List.length_cons, List.length_nil, Nat.zero_add, Nat.reduceAdd, Nat.reduceLeDiff, BEq.rfl, clr, slots, Option.map, tgB, List.set_cons_zero, List.set_cons_succ, calR, toSl, Bool.false_eq_true, if_false, if_true, rtlR, frzL, frz1, List.foldl_cons, List.foldl_nil, owOf, ownK, lstK, appP, owS, raiR, tupR, lstR, Bool.not_true, Bool.not_false, nobF, ofF, ty_int0, ty_int1, ty_int2, ty_int3, ty_int4, is23_int, ty_str0, ty_str1, ty_str2, ty_str3, ty_str4, is23_str, ty_lst0, ty_lst1, ty_lst2, ty_lst3, ty_lst4, is23_lst, ty_tup0, ty_tup1, ty_tup2, ty_tup3, ty_tup4, is23_tup, ty_bl0, ty_bl1, ty_bl2, ty_bl3, ty_bl4, is23_bl, ty_non0, ty_non1, ty_non2, ty_non3, ty_non4, is23_non, h7, hm, ha, hadd, hb, oN, oL, oW, parR, execM, encL, wV]
          try rfl
    · rw [if_neg h] at hm
      rw [wl1_n a b c r (fun e => h e.symm)]
      have hma : matP .any (.lst L) [.sh (.str s), .un, .un, .un, .un, .un] = some (some [.sh (.str s), .un, .un, .un, .un, .un]) := rfl
      simp -implicitDefEqProofs only [b13, execs, exec, ev, evs, evC, evP, execM, List.getElem?_cons_zero, List.getElem?_cons_succ, sl_sh, sl_ow, sl_sht, sl_owt, fin_f, fin_t, cons_sh, cons_fr, cons_bo, cons_ex, cons_ok_ex, lbind_ok, lbind_ex, bind_ok, bind_ex, cond_b, kp_sh, kp_fr, kp_ex, tru_bl, tru_ex, tru_lst, tru_str, ofB_some', ofV_some, ofO_some, nox_ok, chnR_eq c_le_int, cmpR_eq c_le_int, cmpR_eq c_lt_int, cmpR_eq c_ge_int, cmpR_eq c_gt_int, cmpR_eq c_eq_int, cmpR_eq c_ne_int, cmpR_eq c_eq_str, cmpR_eq c_ne_str, cmpR_eq c_in_sgn, cmpR_eq c_nin_sgn, cmpR_eq c_is_non, cmpR_eq c_isnot_non, b_len_lst, b_len_tup, b_len_cdt, b_len_str, b_all, b_int_int, b_int_bl, b_int_str, b_str_int, b_str_str, b_isinst, b_list_lst, b_list_dct, b_tuple_lst, strK_str, m_sw, fk_sh, fk_fr, fk_ex, fl_ok, fl_ex, lfl_ok, lfl_ex, fc_b, fc_ex, seq_nx, seq_rt, seq_ex, seq_bk, seq_ct, ofFl_rt, ofFl_nx, ofFl_ex, turn_nx, turn_ct, turn_bk, turn_rt, turn_ex, it_lst, it_tup, it_str, it_rng1, it_rng2, it_enum, cmpR_eq c_ne_bl, cmpR_eq c_eq_bl, List.length_cons, List.length_nil, Nat.zero_add, Nat.reduceAdd, Nat.reduceLeDiff, BEq.rfl, clr, slots, Option.map, tgB, List.set_cons_zero, List.set_cons_succ, calR, toSl, Bool.false_eq_true, if_false, if_true, rtlR, frzL, frz1, List.foldl_cons, List.foldl_nil, owOf, ownK, lstK, appP, owS, raiR, tupR, lstR, Bool.not_true, Bool.not_false, nobF, ofF, ty_int0, ty_int1, ty_int2, ty_int3, ty_int4, is23_int, ty_str0, ty_str1, ty_str2, ty_str3, ty_str4, is23_str, ty_lst0, ty_lst1, ty_lst2, ty_lst3, ty_lst4, is23_lst, ty_tup0, ty_tup1, ty_tup2, ty_tup3, ty_tup4, is23_tup, ty_bl0, ty_bl1, ty_bl2, ty_bl3, ty_bl4, is23_bl, ty_non0, ty_non1, ty_non2, ty_non3, ty_non4, is23_non, h7, hm, hma, oW, execM]
      try rfl
theorem f14 (d : Nat) (p : Nat × List Nat) : callF P (d + 1) 14 [.int (p.1 : Int), encL p.2] = .ok .sh (.bl (areW p)) := by
  rw [e14]
  obtain ⟨m, r⟩ := p
  have c2 : decide ((2 : Int) ≤ (m : Int)) = decide (2 ≤ m) := decide_eq_decide.mpr (by omega)
  have c40 : decide ((m : Int) ≤ (40 : Int)) = decide (m ≤ 40) := decide_eq_decide.mpr (by omega)
  have c12 : decide ((12 : Int) < (r.length : Int)) = decide (12 < r.length) := decide_eq_decide.mpr (by omega)
  have c120 : decide (((m * r.length : Nat) : Int) ≤ (120 : Int)) = decide (m * r.length ≤ 120) := decide_eq_decide.mpr (by omega)
  have hlc := lc_map (X := ⟨callF P d, par, 4⟩) (env := [.sh (.int (m : Int)), .sh (encL r), .un]) (tg := .v 2) (kk := .seq) (src := .cons (.loc 1) .nil) (elt := .cmp .lt (.loc 2) (.loc 0)) (fun (x : Nat) => PV.int (x : Int)) (fun x => .bl (decide ((x : Int) < (m : Int)))) r (nb := true) (vs := [encL r]) (by simp -implicitDefEqProofs only [execs, exec, ev, evs, evC, evP, execM, List.getElem?_cons_zero, List.getElem?_cons_succ, sl_sh, sl_ow, sl_sht, sl_owt, fin_f, fin_t, cons_sh, cons_fr, cons_bo, cons_ex, cons_ok_ex, lbind_ok, lbind_ex, bind_ok, bind_ex, cond_b, kp_sh, kp_fr, kp_ex, tru_bl, tru_ex, tru_lst, tru_str, ofB_some', ofV_some, ofO_some, nox_ok, chnR_eq c_le_int, cmpR_eq c_le_int, cmpR_eq c_lt_int, cmpR_eq c_ge_int, cmpR_eq c_gt_int, cmpR_eq c_eq_int, cmpR_eq c_ne_int, cmpR_eq c_eq_str, cmpR_eq c_ne_str, cmpR_eq c_in_sgn, cmpR_eq c_nin_sgn, cmpR_eq c_is_non, cmpR_eq c_isnot_non, b_len_lst, b_len_tup, b_len_cdt, b_len_str, b_all, b_int_int, b_int_bl, b_int_str, b_str_int, b_str_str, b_isinst, b_list_lst, b_list_dct, b_tuple_lst, strK_str, m_sw, fk_sh, fk_fr, fk_ex, fl_ok, fl_ex, lfl_ok, lfl_ex, fc_b, fc_ex, seq_nx, seq_rt, seq_ex, seq_bk, seq_ct, ofFl_rt, ofFl_nx, ofFl_ex, turn_nx, turn_ct, turn_bk, turn_rt, turn_ex, it_lst, it_tup, it_str, it_rng1, it_rng2, it_enum, cmpR_eq c_ne_bl, cmpR_eq c_eq_bl, List.length_cons, List.length_nil, Nat.zero_add, Nat.reduceAdd, Nat.reduceLeDiff, BEq.rfl, clr, slots, Option.map, tgB, List.set_cons_zero, List.set_cons_succ, calR, toSl, Bool.false_eq_true, if_false, if_true, rtlR, frzL, frz1, List.foldl_cons, List.foldl_nil, owOf, ownK, lstK, appP, owS, raiR, tupR, lstR, Bool.not_true, Bool.not_false, nobF, ofF, ty_int0, ty_int1, ty_int2, ty_int3, ty_int4, is23_int, ty_str0, ty_str1, ty_str2, ty_str3, ty_str4, is23_str, ty_lst0, ty_lst1, ty_lst2, ty_lst3, ty_lst4, is23_lst, ty_tup0, ty_tup1, ty_tup2, ty_tup3, ty_tup4, is23_tup, ty_bl0, ty_bl1, ty_bl2, ty_bl3, ty_bl4, is23_bl, ty_non0, ty_non1, ty_non2, ty_non3, ty_non4, is23_non]) it_lst (fun x hx => ⟨[.sh (.int (m : Int)), .sh (encL r), .sh (.int (x : Int))], rfl, .inl (by simp -implicitDefEqProofs only [execs, exec, ev, evs, evC, evP, execM, List.getElem?_cons_zero, List.getElem?_cons_succ, sl_sh, sl_ow, sl_sht, sl_owt, fin_f, fin_t, cons_sh, cons_fr, cons_bo, cons_ex, cons_ok_ex, lbind_ok, lbind_ex, bind_ok, bind_ex, cond_b, kp_sh, kp_fr, kp_ex, tru_bl, tru_ex, tru_lst, tru_str, ofB_some', ofV_some, ofO_some, nox_ok, chnR_eq c_le_int, cmpR_eq c_le_int, cmpR_eq c_lt_int, cmpR_eq c_ge_int, cmpR_eq c_gt_int, cmpR_eq c_eq_int, cmpR_eq c_ne_int, cmpR_eq c_eq_str, cmpR_eq c_ne_str, cmpR_eq c_in_sgn, cmpR_eq c_nin_sgn, cmpR_eq c_is_non, cmpR_eq c_isnot_non, b_len_lst, b_len_tup, b_len_cdt, b_len_str, b_all, b_int_int, b_int_bl, b_int_str, b_str_int, b_str_str, b_isinst, b_list_lst, b_list_dct, b_tuple_lst, strK_str, m_sw, fk_sh, fk_fr, fk_ex, fl_ok, fl_ex, lfl_ok, lfl_ex, fc_b, fc_ex, seq_nx, seq_rt, seq_ex, seq_bk, seq_ct, ofFl_rt, ofFl_nx, ofFl_ex, turn_nx, turn_ct, turn_bk, turn_rt, turn_ex, it_lst, it_tup, it_str, it_rng1, it_rng2, it_enum, cmpR_eq c_ne_bl, cmpR_eq c_eq_bl, List.length_cons, List.length_nil, Nat.zero_add, Nat.reduceAdd, Nat.reduceLeDiff, BEq.rfl, clr, slots, Option.map, tgB, List.set_cons_zero, List.set_cons_succ, calR, toSl, Bool.false_eq_true, if_false, if_true, rtlR, frzL, frz1, List.foldl_cons, List.foldl_nil, owOf, ownK, lstK, appP, owS, raiR, tupR, lstR, Bool.not_true, Bool.not_false, nobF, ofF, ty_int0, ty_int1, ty_int2, ty_int3, ty_int4, is23_int, ty_str0, ty_str1, ty_str2, ty_str3, ty_str4, is23_str, ty_lst0, ty_lst1, ty_lst2, ty_lst3, ty_lst4, is23_lst, ty_tup0, ty_tup1, ty_tup2, ty_tup3, ty_tup4, is23_tup, ty_bl0, ty_bl1, ty_bl2, ty_bl3, ty_bl4, is23_bl, ty_non0, ty_non1, ty_non2, ty_non3, ty_non4, is23_non])⟩)
  have ha := allT_lt r m
  unfold areW b14
  simp only
  generalize (r.all fun x => decide (x < m)) = q at ha
  generalize IR.lc (.v 2) .seq (.cons (.loc 1) .nil) .nil (.cmp .lt (.loc 2) (.loc 0)) = lc at hlc
  have hlen : bltP .len [encL r] = .ok .sh (.int (r.length : Int)) := by unfold encL; rw [b_len_lst, List.length_map]
  by_cases hB : m ≤ 40
  · have e1 : binP .mul (.int (m : Int)) (.int (r.length : Int)) = .ok .sh (.int ((m * r.length : Nat) : Int)) := (mulLx (by unfold small; simp -implicitDefEqProofs only [Bool.and_eq_true, decide_eq_true_eq]; omega)).trans (int_congr (by simp))
    have hB' : decide (m ≤ 40) = true := decide_eq_true hB
    rw [hB'] at c40 ⊢
    generalize decide (2 ≤ m) = A at c2
    generalize decide (12 < r.length) = C at c12
    generalize decide (m * r.length ≤ 120) = D at c120
    cases A <;> cases C <;> cases q <;> simp -implicitDefEqProofs only [execs, exec, ev, evs, evC, evP, execM, List.getElem?_cons_zero, List.getElem?_cons_succ, sl_sh, sl_ow, sl_sht, sl_owt, fin_f, fin_t, cons_sh, cons_fr, cons_bo, cons_ex, cons_ok_ex, lbind_ok, lbind_ex, bind_ok, bind_ex, cond_b, kp_sh, kp_fr, kp_ex, tru_bl, tru_ex, tru_lst, tru_str, ofB_some', ofV_some, ofO_some, nox_ok, chnR_eq c_le_int, cmpR_eq c_le_int, cmpR_eq c_lt_int, cmpR_eq c_ge_int, cmpR_eq c_gt_int, cmpR_eq c_eq_int, cmpR_eq c_ne_int, cmpR_eq c_eq_str, cmpR_eq c_ne_str, cmpR_eq c_in_sgn, cmpR_eq c_nin_sgn, cmpR_eq c_is_non, cmpR_eq c_isnot_non, b_len_lst, b_len_tup, b_len_cdt, b_len_str, b_all, b_int_int, b_int_bl, b_int_str, b_str_int, b_str_str, b_isinst, b_list_lst, b_list_dct, b_tuple_lst, strK_str, m_sw, fk_sh, fk_fr, fk_ex, fl_ok, fl_ex, lfl_ok, lfl_ex, fc_b, fc_ex, seq_nx, seq_rt, seq_ex, seq_bk, seq_ct, ofFl_rt, ofFl_nx, ofFl_ex, turn_nx, turn_ct, turn_bk, turn_rt, turn_ex, it_lst, it_tup, it_str, it_rng1, it_rng2, it_enum, cmpR_eq c_ne_bl, cmpR_eq c_eq_bl, List.length_cons, List.length_nil, Nat.zero_add, Nat.reduceAdd, Nat.reduceLeDiff, BEq.rfl, clr, slots, Option.map, tgB, List.set_cons_zero, List.set_cons_succ, calR, toSl, Bool.false_eq_true, if_false, if_true, rtlR, frzL, frz1, List.foldl_cons, List.foldl_nil, owOf, ownK, lstK, appP, owS, raiR, tupR, lstR, Bool.not_true, Bool.not_false, nobF, ofF, ty_int0, ty_int1, ty_int2, ty_int3, ty_int4, is23_int, ty_str0, ty_str1, ty_str2, ty_str3, ty_str4, is23_str, ty_lst0, ty_lst1, ty_lst2, ty_lst3, ty_lst4, is23_lst, ty_tup0, ty_tup1, ty_tup2, ty_tup3, ty_tup4, is23_tup, ty_bl0, ty_bl1, ty_bl2, ty_bl3, ty_bl4, is23_bl, ty_non0, ty_non1, ty_non2, ty_non3, ty_non4, is23_non, hlen, c2, c40, c12, hlc, ha, e1, c120, Bool.and_true, Bool.and_false, Bool.true_and, Bool.false_and, Bool.or_true, Bool.or_false, Bool.true_or, Bool.false_or] <;> try rfl
  · have hB' : decide (m ≤ 40) = false := decide_eq_false hB
    rw [hB'] at c40 ⊢
    generalize decide (2 ≤ m) = A at c2
    cases A <;> simp -implicitDefEqProofs only [execs, exec, ev, evs, evC, evP, execM, List.getElem?_cons_zero, List.getElem?_cons_succ, sl_sh, sl_ow, sl_sht, sl_owt, fin_f, fin_t, cons_sh, cons_fr, cons_bo, cons_ex, cons_ok_ex, lbind_ok, lbind_ex, bind_ok, bind_ex, cond_b, kp_sh, kp_fr, kp_ex, tru_bl, tru_ex, tru_lst, tru_str, ofB_some', ofV_some, ofO_some, nox_ok, chnR_eq c_le_int, cmpR_eq c_le_int, cmpR_eq c_lt_int, cmpR_eq c_ge_int, cmpR_eq c_gt_int, cmpR_eq c_eq_int, cmpR_eq c_ne_int, cmpR_eq c_eq_str, cmpR_eq c_ne_str, cmpR_eq c_in_sgn, cmpR_eq c_nin_sgn, cmpR_eq c_is_non, cmpR_eq c_isnot_non, b_len_lst, b_len_tup, b_len_cdt, b_len_str, b_all, b_int_int, b_int_bl, b_int_str, b_str_int, b_str_str, b_isinst, b_list_lst, b_list_dct, b_tuple_lst, strK_str, m_sw, fk_sh, fk_fr, fk_ex, fl_ok, fl_ex, lfl_ok, lfl_ex, fc_b, fc_ex, seq_nx, seq_rt, seq_ex, seq_bk, seq_ct, ofFl_rt, ofFl_nx, ofFl_ex, turn_nx, turn_ct, turn_bk, turn_rt, turn_ex, it_lst, it_tup, it_str, it_rng1, it_rng2, it_enum, cmpR_eq c_ne_bl, cmpR_eq c_eq_bl, List.length_cons, List.length_nil, Nat.zero_add, Nat.reduceAdd, Nat.reduceLeDiff, BEq.rfl, clr, slots, Option.map, tgB, List.set_cons_zero, List.set_cons_succ, calR, toSl, Bool.false_eq_true, if_false, if_true, rtlR, frzL, frz1, List.foldl_cons, List.foldl_nil, owOf, ownK, lstK, appP, owS, raiR, tupR, lstR, Bool.not_true, Bool.not_false, nobF, ofF, ty_int0, ty_int1, ty_int2, ty_int3, ty_int4, is23_int, ty_str0, ty_str1, ty_str2, ty_str3, ty_str4, is23_str, ty_lst0, ty_lst1, ty_lst2, ty_lst3, ty_lst4, is23_lst, ty_tup0, ty_tup1, ty_tup2, ty_tup3, ty_tup4, is23_tup, ty_bl0, ty_bl1, ty_bl2, ty_bl3, ty_bl4, is23_bl, ty_non0, ty_non1, ty_non2, ty_non3, ty_non4, is23_non, hlen, c2, c40, c12, hlc, ha, c120, Bool.and_true, Bool.and_false, Bool.true_and, Bool.false_and, Bool.or_true, Bool.or_false, Bool.true_or, Bool.false_or] <;> try rfl
end Wk81
set_option Elab.async false
set_option linter.all false
set_option maxRecDepth 100000
set_option maxHeartbeats 2000000
namespace Wk81
open EV
theorem lines_wl (ls : List (List Nat)) (h : (ls.map wlOf).findIdx? isNone' = none) : (ls.map fun l => oW (wlOf l)) = (ls.map fun l => (wlOf l).getD (0, [])).map wV := by
  rw [List.findIdx?_eq_none_iff] at h
  rw [List.map_map]
  apply List.map_congr_left
  intro l hl
  have := h (wlOf l) (List.mem_map_of_mem hl)
  show oW (wlOf l) = wV ((wlOf l).getD (0, []))
  cases hq : wlOf l with
  | none => rw [hq] at this; cases this
  | some r => rfl
/-- what the only line says -/
def onlyRs (ls : List (List Nat)) : Rs := match (ls.map wlOf).findIdx? isNone' with
  | some i => .ex ⟨3, some (.int i)⟩
  | none => if 1 < ls.length then .ex ⟨3, some (.int 1)⟩ else .ok .sh (wV ((ls.map fun l => (wlOf l).getD (0, [])).getD 0 (0, [])))
theorem f10 (d : Nat) (s : List Nat) (hs : s.length ≤ 7000000) : callF P (d + 7) 10 [.str s, .fn 13] = onlyRs (splitOn 10 s) := by
  rw [e10]
  have hmem := splitOn_mem 10 s
  have h11 := f9 (d + 1) 13 (fun x => match x with | .str t => oW (wlOf t) | _ => .non) s (fun x hx => by
    obtain ⟨t, ht, rfl⟩ := List.mem_map.mp hx
    have := hmem t ht
    exact f13 d t (by omega))
  have hne : splitOn 10 s ≠ [] := fun e => by
    have := splitNe 10 s
    rw [e] at this
    cases this
  unfold onlyRs
  generalize splitOn 10 s = ls at h11 hne
  have e1 : ((ls.map PV.str).map fun x => match x with | .str t => oW (wlOf t) | _ => .non) = ls.map fun l => oW (wlOf l) := by rw [List.map_map]; rfl
  rw [e1] at h11
  have e2 : (ls.map fun l => oW (wlOf l)).findIdx? isNonP = (ls.map wlOf).findIdx? isNone' := by
    rw [findIdx_map, findIdx_map]
    congr 1
    funext l
    exact isNon_oW _
  unfold rdF at h11
  rw [e2] at h11
  cases hf : (ls.map wlOf).findIdx? isNone' with
  | some i =>
    rw [hf] at h11
    simp -implicitDefEqProofs only [b10, execs, exec, ev, evs, evC, evP, execM, List.getElem?_cons_zero, List.getElem?_cons_succ, sl_sh, sl_ow, sl_sht, sl_owt, fin_f, fin_t, cons_sh, cons_fr, cons_bo, cons_ex, cons_ok_ex, lbind_ok, lbind_ex, bind_ok, bind_ex, cond_b, kp_sh, kp_fr, kp_ex, tru_bl, tru_ex, tru_lst, tru_str, ofB_some', ofV_some, ofO_some, nox_ok, chnR_eq c_le_int, cmpR_eq c_le_int, cmpR_eq c_lt_int, cmpR_eq c_ge_int, cmpR_eq c_gt_int, cmpR_eq c_eq_int, cmpR_eq c_ne_int, cmpR_eq c_eq_str, cmpR_eq c_ne_str, cmpR_eq c_in_sgn, cmpR_eq c_nin_sgn, cmpR_eq c_is_non, cmpR_eq c_isnot_non, b_len_lst, b_len_tup, b_len_cdt, b_len_str, b_all, b_int_int, b_int_bl, b_int_str, b_str_int, b_str_str, b_isinst, b_list_lst, b_list_dct, b_tuple_lst, strK_str, m_sw, fk_sh, fk_fr, fk_ex, fl_ok, fl_ex, lfl_ok, lfl_ex, fc_b, fc_ex, seq_nx, seq_rt, seq_ex, seq_bk, seq_ct, ofFl_rt, ofFl_nx, ofFl_ex, turn_nx, turn_ct, turn_bk, turn_rt, turn_ex, it_lst, it_tup, it_str, it_rng1, it_rng2, it_enum, cmpR_eq c_ne_bl, cmpR_eq c_eq_bl, List.length_cons, List.length_nil, Nat.zero_add, Nat.reduceAdd, Nat.reduceLeDiff, BEq.rfl, clr, slots, Option.map, tgB, List.set_cons_zero, List.set_cons_succ, calR, toSl, Bool.false_eq_true, if_false, if_true, rtlR, frzL, frz1, List.foldl_cons, List.foldl_nil, owOf, ownK, lstK, appP, owS, raiR, tupR, lstR, Bool.not_true, Bool.not_false, nobF, ofF, ty_int0, ty_int1, ty_int2, ty_int3, ty_int4, is23_int, ty_str0, ty_str1, ty_str2, ty_str3, ty_str4, is23_str, ty_lst0, ty_lst1, ty_lst2, ty_lst3, ty_lst4, is23_lst, ty_tup0, ty_tup1, ty_tup2, ty_tup3, ty_tup4, is23_tup, ty_bl0, ty_bl1, ty_bl2, ty_bl3, ty_bl4, is23_bl, ty_non0, ty_non1, ty_non2, ty_non3, ty_non4, is23_non, h11, Int.zero_add]
  | none =>
    rw [hf] at h11
    rw [lines_wl ls hf] at h11
    have hl : ls.length = (ls.map fun l => (wlOf l).getD (0, [])).length := by rw [List.length_map]
    have hne2 : (ls.map fun l => (wlOf l).getD (0, [])) ≠ [] := by simpa using hne
    simp only at h11 ⊢
    rw [hl]
    generalize (ls.map fun l => (wlOf l).getD (0, [])) = ps at h11 hne2
    match ps, hne2 with
    | [p], _ =>
      have c : decide ((1 : Int) < ((1 : Nat) : Int)) = false := rfl
      simp -implicitDefEqProofs only [b10, execs, exec, ev, evs, evC, evP, execM, List.getElem?_cons_zero, List.getElem?_cons_succ, sl_sh, sl_ow, sl_sht, sl_owt, fin_f, fin_t, cons_sh, cons_fr, cons_bo, cons_ex, cons_ok_ex, lbind_ok, lbind_ex, bind_ok, bind_ex, cond_b, kp_sh, kp_fr, kp_ex, tru_bl, tru_ex, tru_lst, tru_str, ofB_some', ofV_some, ofO_some, nox_ok, chnR_eq c_le_int, cmpR_eq c_le_int, cmpR_eq c_lt_int, cmpR_eq c_ge_int, cmpR_eq c_gt_int, cmpR_eq c_eq_int, cmpR_eq c_ne_int, cmpR_eq c_eq_str, cmpR_eq c_ne_str, cmpR_eq c_in_sgn, cmpR_eq c_nin_sgn, cmpR_eq c_is_non, cmpR_eq c_isnot_non, b_len_lst, b_len_tup, b_len_cdt, b_len_str, b_all, b_int_int, b_int_bl, b_int_str, b_str_int, b_str_str, b_isinst, b_list_lst, b_list_dct, b_tuple_lst, strK_str, m_sw, fk_sh, fk_fr, fk_ex, fl_ok, fl_ex, lfl_ok, lfl_ex, fc_b, fc_ex, seq_nx, seq_rt, seq_ex, seq_bk, seq_ct, ofFl_rt, ofFl_nx, ofFl_ex, turn_nx, turn_ct, turn_bk, turn_rt, turn_ex, it_lst, it_tup, it_str, it_rng1, it_rng2, it_enum, cmpR_eq c_ne_bl, cmpR_eq c_eq_bl, List.length_cons, List.length_nil, Nat.zero_add, Nat.reduceAdd, Nat.reduceLeDiff, BEq.rfl, clr, slots, Option.map, tgB, List.set_cons_zero, List.set_cons_succ, calR, toSl, Bool.false_eq_true, if_false, if_true, rtlR, frzL, frz1, List.foldl_cons, List.foldl_nil, owOf, ownK, lstK, appP, owS, raiR, tupR, lstR, Bool.not_true, Bool.not_false, nobF, ofF, ty_int0, ty_int1, ty_int2, ty_int3, ty_int4, is23_int, ty_str0, ty_str1, ty_str2, ty_str3, ty_str4, is23_str, ty_lst0, ty_lst1, ty_lst2, ty_lst3, ty_lst4, is23_lst, ty_tup0, ty_tup1, ty_tup2, ty_tup3, ty_tup4, is23_tup, ty_bl0, ty_bl1, ty_bl2, ty_bl3, ty_bl4, is23_bl, ty_non0, ty_non1, ty_non2, ty_non3, ty_non4, is23_non, h11, List.map_cons, List.map_nil, sub_lst, atP_0, List.length_map, c]
      rfl
    | p :: p' :: r, _ =>
      have c : decide ((1 : Int) < ((r.length + 1 + 1 : Nat) : Int)) = true := decide_eq_true (by omega)
      have c' : 1 < r.length + 1 + 1 := by omega
      simp -implicitDefEqProofs only [b10, execs, exec, ev, evs, evC, evP, execM, List.getElem?_cons_zero, List.getElem?_cons_succ, sl_sh, sl_ow, sl_sht, sl_owt, fin_f, fin_t, cons_sh, cons_fr, cons_bo, cons_ex, cons_ok_ex, lbind_ok, lbind_ex, bind_ok, bind_ex, cond_b, kp_sh, kp_fr, kp_ex, tru_bl, tru_ex, tru_lst, tru_str, ofB_some', ofV_some, ofO_some, nox_ok, chnR_eq c_le_int, cmpR_eq c_le_int, cmpR_eq c_lt_int, cmpR_eq c_ge_int, cmpR_eq c_gt_int, cmpR_eq c_eq_int, cmpR_eq c_ne_int, cmpR_eq c_eq_str, cmpR_eq c_ne_str, cmpR_eq c_in_sgn, cmpR_eq c_nin_sgn, cmpR_eq c_is_non, cmpR_eq c_isnot_non, b_len_lst, b_len_tup, b_len_cdt, b_len_str, b_all, b_int_int, b_int_bl, b_int_str, b_str_int, b_str_str, b_isinst, b_list_lst, b_list_dct, b_tuple_lst, strK_str, m_sw, fk_sh, fk_fr, fk_ex, fl_ok, fl_ex, lfl_ok, lfl_ex, fc_b, fc_ex, seq_nx, seq_rt, seq_ex, seq_bk, seq_ct, ofFl_rt, ofFl_nx, ofFl_ex, turn_nx, turn_ct, turn_bk, turn_rt, turn_ex, it_lst, it_tup, it_str, it_rng1, it_rng2, it_enum, cmpR_eq c_ne_bl, cmpR_eq c_eq_bl, List.length_cons, List.length_nil, Nat.zero_add, Nat.reduceAdd, Nat.reduceLeDiff, BEq.rfl, clr, slots, Option.map, tgB, List.set_cons_zero, List.set_cons_succ, calR, toSl, Bool.false_eq_true, if_false, if_true, rtlR, frzL, frz1, List.foldl_cons, List.foldl_nil, owOf, ownK, lstK, appP, owS, raiR, tupR, lstR, Bool.not_true, Bool.not_false, nobF, ofF, ty_int0, ty_int1, ty_int2, ty_int3, ty_int4, is23_int, ty_str0, ty_str1, ty_str2, ty_str3, ty_str4, is23_str, ty_lst0, ty_lst1, ty_lst2, ty_lst3, ty_lst4, is23_lst, ty_tup0, ty_tup1, ty_tup2, ty_tup3, ty_tup4, is23_tup, ty_bl0, ty_bl1, ty_bl2, ty_bl3, ty_bl4, is23_bl, ty_non0, ty_non1, ty_non2, ty_non3, ty_non4, is23_non, h11, List.length_map, c, if_pos c']
theorem f15 (d : Nat) (s : List Nat) (hs : s.length ≤ 7000000) : callF P (d + 8) 15 [.str s] = rdRs (rdW s) := by
  rw [e15]
  have h1 := f10 d s hs
  unfold rdW rdW1
  have hlen := splitLen 10 s
  unfold onlyRs at h1
  generalize splitOn 10 s = ls at h1 hlen
  cases hf : (ls.map wlOf).findIdx? isNone' with
  | some i =>
    rw [hf] at h1
    simp -implicitDefEqProofs only [b15, execs, exec, ev, evs, evC, evP, execM, List.getElem?_cons_zero, List.getElem?_cons_succ, sl_sh, sl_ow, sl_sht, sl_owt, fin_f, fin_t, cons_sh, cons_fr, cons_bo, cons_ex, cons_ok_ex, lbind_ok, lbind_ex, bind_ok, bind_ex, cond_b, kp_sh, kp_fr, kp_ex, tru_bl, tru_ex, tru_lst, tru_str, ofB_some', ofV_some, ofO_some, nox_ok, chnR_eq c_le_int, cmpR_eq c_le_int, cmpR_eq c_lt_int, cmpR_eq c_ge_int, cmpR_eq c_gt_int, cmpR_eq c_eq_int, cmpR_eq c_ne_int, cmpR_eq c_eq_str, cmpR_eq c_ne_str, cmpR_eq c_in_sgn, cmpR_eq c_nin_sgn, cmpR_eq c_is_non, cmpR_eq c_isnot_non, b_len_lst, b_len_tup, b_len_cdt, b_len_str, b_all, b_int_int, b_int_bl, b_int_str, b_str_int, b_str_str, b_isinst, b_list_lst, b_list_dct, b_tuple_lst, strK_str, m_sw, fk_sh, fk_fr, fk_ex, fl_ok, fl_ex, lfl_ok, lfl_ex, fc_b, fc_ex, seq_nx, seq_rt, seq_ex, seq_bk, seq_ct, ofFl_rt, ofFl_nx, ofFl_ex, turn_nx, turn_ct, turn_bk, turn_rt, turn_ex, it_lst, it_tup, it_str, it_rng1, it_rng2, it_enum, cmpR_eq c_ne_bl, cmpR_eq c_eq_bl, List.length_cons, List.length_nil, Nat.zero_add, Nat.reduceAdd, Nat.reduceLeDiff, BEq.rfl, clr, slots, Option.map, tgB, List.set_cons_zero, List.set_cons_succ, calR, toSl, Bool.false_eq_true, if_false, if_true, rtlR, frzL, frz1, List.foldl_cons, List.foldl_nil, owOf, ownK, lstK, appP, owS, raiR, tupR, lstR, Bool.not_true, Bool.not_false, nobF, ofF, ty_int0, ty_int1, ty_int2, ty_int3, ty_int4, is23_int, ty_str0, ty_str1, ty_str2, ty_str3, ty_str4, is23_str, ty_lst0, ty_lst1, ty_lst2, ty_lst3, ty_lst4, is23_lst, ty_tup0, ty_tup1, ty_tup2, ty_tup3, ty_tup4, is23_tup, ty_bl0, ty_bl1, ty_bl2, ty_bl3, ty_bl4, is23_bl, ty_non0, ty_non1, ty_non2, ty_non3, ty_non4, is23_non, h1, rdRs]
  | none =>
    rw [hf] at h1
    have hl : ls.length = (ls.map fun l => (wlOf l).getD (0, [])).length := by rw [List.length_map]
    simp only at h1 ⊢
    rw [hl] at h1
    generalize (ls.map fun l => (wlOf l).getD (0, [])) = ps at h1
    unfold rdW2
    by_cases h : 1 < ps.length
    · rw [if_pos h] at h1 ⊢
      simp -implicitDefEqProofs only [b15, execs, exec, ev, evs, evC, evP, execM, List.getElem?_cons_zero, List.getElem?_cons_succ, sl_sh, sl_ow, sl_sht, sl_owt, fin_f, fin_t, cons_sh, cons_fr, cons_bo, cons_ex, cons_ok_ex, lbind_ok, lbind_ex, bind_ok, bind_ex, cond_b, kp_sh, kp_fr, kp_ex, tru_bl, tru_ex, tru_lst, tru_str, ofB_some', ofV_some, ofO_some, nox_ok, chnR_eq c_le_int, cmpR_eq c_le_int, cmpR_eq c_lt_int, cmpR_eq c_ge_int, cmpR_eq c_gt_int, cmpR_eq c_eq_int, cmpR_eq c_ne_int, cmpR_eq c_eq_str, cmpR_eq c_ne_str, cmpR_eq c_in_sgn, cmpR_eq c_nin_sgn, cmpR_eq c_is_non, cmpR_eq c_isnot_non, b_len_lst, b_len_tup, b_len_cdt, b_len_str, b_all, b_int_int, b_int_bl, b_int_str, b_str_int, b_str_str, b_isinst, b_list_lst, b_list_dct, b_tuple_lst, strK_str, m_sw, fk_sh, fk_fr, fk_ex, fl_ok, fl_ex, lfl_ok, lfl_ex, fc_b, fc_ex, seq_nx, seq_rt, seq_ex, seq_bk, seq_ct, ofFl_rt, ofFl_nx, ofFl_ex, turn_nx, turn_ct, turn_bk, turn_rt, turn_ex, it_lst, it_tup, it_str, it_rng1, it_rng2, it_enum, cmpR_eq c_ne_bl, cmpR_eq c_eq_bl, List.length_cons, List.length_nil, Nat.zero_add, Nat.reduceAdd, Nat.reduceLeDiff, BEq.rfl, clr, slots, Option.map, tgB, List.set_cons_zero, List.set_cons_succ, calR, toSl, Bool.false_eq_true, if_false, if_true, rtlR, frzL, frz1, List.foldl_cons, List.foldl_nil, owOf, ownK, lstK, appP, owS, raiR, tupR, lstR, Bool.not_true, Bool.not_false, nobF, ofF, ty_int0, ty_int1, ty_int2, ty_int3, ty_int4, is23_int, ty_str0, ty_str1, ty_str2, ty_str3, ty_str4, is23_str, ty_lst0, ty_lst1, ty_lst2, ty_lst3, ty_lst4, is23_lst, ty_tup0, ty_tup1, ty_tup2, ty_tup3, ty_tup4, is23_tup, ty_bl0, ty_bl1, ty_bl2, ty_bl3, ty_bl4, is23_bl, ty_non0, ty_non1, ty_non2, ty_non3, ty_non4, is23_non, h1, rdRs, Int.natCast_one]
      try rfl
    · rw [if_neg h] at h1 ⊢
      generalize ps.getD 0 (0, []) = p at h1
      obtain ⟨m, r⟩ := p
      have h2 := f14 (d + 6) (m, r)
      have h3 := f11 (d + 6) (!areW (m, r)) 0
      unfold rdW3
      simp only at h2
      unfold b15
      rw [stp (env' := [.sh (.str s), .sh (.int (m : Int)), .sh (encL r)]) (by simp -implicitDefEqProofs only [execs, exec, ev, evs, evC, evP, execM, List.getElem?_cons_zero, List.getElem?_cons_succ, sl_sh, sl_ow, sl_sht, sl_owt, fin_f, fin_t, cons_sh, cons_fr, cons_bo, cons_ex, cons_ok_ex, lbind_ok, lbind_ex, bind_ok, bind_ex, cond_b, kp_sh, kp_fr, kp_ex, tru_bl, tru_ex, tru_lst, tru_str, ofB_some', ofV_some, ofO_some, nox_ok, chnR_eq c_le_int, cmpR_eq c_le_int, cmpR_eq c_lt_int, cmpR_eq c_ge_int, cmpR_eq c_gt_int, cmpR_eq c_eq_int, cmpR_eq c_ne_int, cmpR_eq c_eq_str, cmpR_eq c_ne_str, cmpR_eq c_in_sgn, cmpR_eq c_nin_sgn, cmpR_eq c_is_non, cmpR_eq c_isnot_non, b_len_lst, b_len_tup, b_len_cdt, b_len_str, b_all, b_int_int, b_int_bl, b_int_str, b_str_int, b_str_str, b_isinst, b_list_lst, b_list_dct, b_tuple_lst, strK_str, m_sw, fk_sh, fk_fr, fk_ex, fl_ok, fl_ex, lfl_ok, lfl_ex, fc_b, fc_ex, seq_nx, seq_rt, seq_ex, seq_bk, seq_ct, ofFl_rt, ofFl_nx, ofFl_ex, turn_nx, turn_ct, turn_bk, turn_rt, turn_ex, it_lst, it_tup, it_str, it_rng1, it_rng2, it_enum, cmpR_eq c_ne_bl, cmpR_eq c_eq_bl, List.length_cons, List.length_nil, Nat.zero_add, Nat.reduceAdd, Nat.reduceLeDiff, BEq.rfl, clr, slots, Option.map, tgB, List.set_cons_zero, List.set_cons_succ, calR, toSl, Bool.false_eq_true, if_false, if_true, rtlR, frzL, frz1, List.foldl_cons, List.foldl_nil, owOf, ownK, lstK, appP, owS, raiR, tupR, lstR, Bool.not_true, Bool.not_false, nobF, ofF, ty_int0, ty_int1, ty_int2, ty_int3, ty_int4, is23_int, ty_str0, ty_str1, ty_str2, ty_str3, ty_str4, is23_str, ty_lst0, ty_lst1, ty_lst2, ty_lst3, ty_lst4, is23_lst, ty_tup0, ty_tup1, ty_tup2, ty_tup3, ty_tup4, is23_tup, ty_bl0, ty_bl1, ty_bl2, ty_bl3, ty_bl4, is23_bl, ty_non0, ty_non1, ty_non2, ty_non3, ty_non4, is23_non, h1, wV, unpR, updL])]
      cases ha : areW (m, r) with
      | true =>
        rw [ha] at h2 h3
        simp -implicitDefEqProofs only [execs, exec, ev, evs, evC, evP, execM, List.getElem?_cons_zero, List.getElem?_cons_succ, sl_sh, sl_ow, sl_sht, sl_owt, fin_f, fin_t, cons_sh, cons_fr, cons_bo, cons_ex, cons_ok_ex, lbind_ok, lbind_ex, bind_ok, bind_ex, cond_b, kp_sh, kp_fr, kp_ex, tru_bl, tru_ex, tru_lst, tru_str, ofB_some', ofV_some, ofO_some, nox_ok, chnR_eq c_le_int, cmpR_eq c_le_int, cmpR_eq c_lt_int, cmpR_eq c_ge_int, cmpR_eq c_gt_int, cmpR_eq c_eq_int, cmpR_eq c_ne_int, cmpR_eq c_eq_str, cmpR_eq c_ne_str, cmpR_eq c_in_sgn, cmpR_eq c_nin_sgn, cmpR_eq c_is_non, cmpR_eq c_isnot_non, b_len_lst, b_len_tup, b_len_cdt, b_len_str, b_all, b_int_int, b_int_bl, b_int_str, b_str_int, b_str_str, b_isinst, b_list_lst, b_list_dct, b_tuple_lst, strK_str, m_sw, fk_sh, fk_fr, fk_ex, fl_ok, fl_ex, lfl_ok, lfl_ex, fc_b, fc_ex, seq_nx, seq_rt, seq_ex, seq_bk, seq_ct, ofFl_rt, ofFl_nx, ofFl_ex, turn_nx, turn_ct, turn_bk, turn_rt, turn_ex, it_lst, it_tup, it_str, it_rng1, it_rng2, it_enum, cmpR_eq c_ne_bl, cmpR_eq c_eq_bl, List.length_cons, List.length_nil, Nat.zero_add, Nat.reduceAdd, Nat.reduceLeDiff, BEq.rfl, clr, slots, Option.map, tgB, List.set_cons_zero, List.set_cons_succ, calR, toSl, Bool.false_eq_true, if_false, if_true, rtlR, frzL, frz1, List.foldl_cons, List.foldl_nil, owOf, ownK, lstK, appP, owS, raiR, tupR, lstR, Bool.not_true, Bool.not_false, nobF, ofF, ty_int0, ty_int1, ty_int2, ty_int3, ty_int4, is23_int, ty_str0, ty_str1, ty_str2, ty_str3, ty_str4, is23_str, ty_lst0, ty_lst1, ty_lst2, ty_lst3, ty_lst4, is23_lst, ty_tup0, ty_tup1, ty_tup2, ty_tup3, ty_tup4, is23_tup, ty_bl0, ty_bl1, ty_bl2, ty_bl3, ty_bl4, is23_bl, ty_non0, ty_non1, ty_non2, ty_non3, ty_non4, is23_non, wV, h2, h3, rdRs]
        try rfl
      | false =>
        rw [ha] at h2 h3
        simp -implicitDefEqProofs only [execs, exec, ev, evs, evC, evP, execM, List.getElem?_cons_zero, List.getElem?_cons_succ, sl_sh, sl_ow, sl_sht, sl_owt, fin_f, fin_t, cons_sh, cons_fr, cons_bo, cons_ex, cons_ok_ex, lbind_ok, lbind_ex, bind_ok, bind_ex, cond_b, kp_sh, kp_fr, kp_ex, tru_bl, tru_ex, tru_lst, tru_str, ofB_some', ofV_some, ofO_some, nox_ok, chnR_eq c_le_int, cmpR_eq c_le_int, cmpR_eq c_lt_int, cmpR_eq c_ge_int, cmpR_eq c_gt_int, cmpR_eq c_eq_int, cmpR_eq c_ne_int, cmpR_eq c_eq_str, cmpR_eq c_ne_str, cmpR_eq c_in_sgn, cmpR_eq c_nin_sgn, cmpR_eq c_is_non, cmpR_eq c_isnot_non, b_len_lst, b_len_tup, b_len_cdt, b_len_str, b_all, b_int_int, b_int_bl, b_int_str, b_str_int, b_str_str, b_isinst, b_list_lst, b_list_dct, b_tuple_lst, strK_str, m_sw, fk_sh, fk_fr, fk_ex, fl_ok, fl_ex, lfl_ok, lfl_ex, fc_b, fc_ex, seq_nx, seq_rt, seq_ex, seq_bk, seq_ct, ofFl_rt, ofFl_nx, ofFl_ex, turn_nx, turn_ct, turn_bk, turn_rt, turn_ex, it_lst, it_tup, it_str, it_rng1, it_rng2, it_enum, cmpR_eq c_ne_bl, cmpR_eq c_eq_bl, List.length_cons, List.length_nil, Nat.zero_add, Nat.reduceAdd, Nat.reduceLeDiff, BEq.rfl, clr, slots, Option.map, tgB, List.set_cons_zero, List.set_cons_succ, calR, toSl, Bool.false_eq_true, if_false, if_true, rtlR, frzL, frz1, List.foldl_cons, List.foldl_nil, owOf, ownK, lstK, appP, owS, raiR, tupR, lstR, Bool.not_true, Bool.not_false, nobF, ofF, ty_int0, ty_int1, ty_int2, ty_int3, ty_int4, is23_int, ty_str0, ty_str1, ty_str2, ty_str3, ty_str4, is23_str, ty_lst0, ty_lst1, ty_lst2, ty_lst3, ty_lst4, is23_lst, ty_tup0, ty_tup1, ty_tup2, ty_tup3, ty_tup4, is23_tup, ty_bl0, ty_bl1, ty_bl2, ty_bl3, ty_bl4, is23_bl, ty_non0, ty_non1, ty_non2, ty_non3, ty_non4, is23_non, wV, h2, h3, rdRs]
        try rfl
theorem f22 (d : Nat) (w : Int) (s : List Nat) (hs : s.length ≤ 7000000) : callF P (d + 9) 22 [.int w, .str s] = .ok .sh (rdPV (rdW s)) := by
  rw [e22]
  have h := f15 d s hs
  cases hr : rdW s with
  | yes v => rw [hr] at h; simp -implicitDefEqProofs only [b22, execs, exec, ev, evs, evC, evP, execM, List.getElem?_cons_zero, List.getElem?_cons_succ, sl_sh, sl_ow, sl_sht, sl_owt, fin_f, fin_t, cons_sh, cons_fr, cons_bo, cons_ex, cons_ok_ex, lbind_ok, lbind_ex, bind_ok, bind_ex, cond_b, kp_sh, kp_fr, kp_ex, tru_bl, tru_ex, tru_lst, tru_str, ofB_some', ofV_some, ofO_some, nox_ok, chnR_eq c_le_int, cmpR_eq c_le_int, cmpR_eq c_lt_int, cmpR_eq c_ge_int, cmpR_eq c_gt_int, cmpR_eq c_eq_int, cmpR_eq c_ne_int, cmpR_eq c_eq_str, cmpR_eq c_ne_str, cmpR_eq c_in_sgn, cmpR_eq c_nin_sgn, cmpR_eq c_is_non, cmpR_eq c_isnot_non, b_len_lst, b_len_tup, b_len_cdt, b_len_str, b_all, b_int_int, b_int_bl, b_int_str, b_str_int, b_str_str, b_isinst, b_list_lst, b_list_dct, b_tuple_lst, strK_str, m_sw, fk_sh, fk_fr, fk_ex, fl_ok, fl_ex, lfl_ok, lfl_ex, fc_b, fc_ex, seq_nx, seq_rt, seq_ex, seq_bk, seq_ct, ofFl_rt, ofFl_nx, ofFl_ex, turn_nx, turn_ct, turn_bk, turn_rt, turn_ex, it_lst, it_tup, it_str, it_rng1, it_rng2, it_enum, cmpR_eq c_ne_bl, cmpR_eq c_eq_bl, List.length_cons, List.length_nil, Nat.zero_add, Nat.reduceAdd, Nat.reduceLeDiff, BEq.rfl, clr, slots, Option.map, tgB, List.set_cons_zero, List.set_cons_succ, calR, toSl, Bool.false_eq_true, if_false, if_true, rtlR, frzL, frz1, List.foldl_cons, List.foldl_nil, owOf, ownK, lstK, appP, owS, raiR, tupR, lstR, Bool.not_true, Bool.not_false, nobF, ofF, ty_int0, ty_int1, ty_int2, ty_int3, ty_int4, is23_int, ty_str0, ty_str1, ty_str2, ty_str3, ty_str4, is23_str, ty_lst0, ty_lst1, ty_lst2, ty_lst3, ty_lst4, is23_lst, ty_tup0, ty_tup1, ty_tup2, ty_tup3, ty_tup4, is23_tup, ty_bl0, ty_bl1, ty_bl2, ty_bl3, ty_bl4, is23_bl, ty_non0, ty_non1, ty_non2, ty_non3, ty_non4, is23_non, h, rdRs, rdPV, Fl.hand] <;> rfl
  | no i => rw [hr] at h; simp -implicitDefEqProofs only [b22, execs, exec, ev, evs, evC, evP, execM, List.getElem?_cons_zero, List.getElem?_cons_succ, sl_sh, sl_ow, sl_sht, sl_owt, fin_f, fin_t, cons_sh, cons_fr, cons_bo, cons_ex, cons_ok_ex, lbind_ok, lbind_ex, bind_ok, bind_ex, cond_b, kp_sh, kp_fr, kp_ex, tru_bl, tru_ex, tru_lst, tru_str, ofB_some', ofV_some, ofO_some, nox_ok, chnR_eq c_le_int, cmpR_eq c_le_int, cmpR_eq c_lt_int, cmpR_eq c_ge_int, cmpR_eq c_gt_int, cmpR_eq c_eq_int, cmpR_eq c_ne_int, cmpR_eq c_eq_str, cmpR_eq c_ne_str, cmpR_eq c_in_sgn, cmpR_eq c_nin_sgn, cmpR_eq c_is_non, cmpR_eq c_isnot_non, b_len_lst, b_len_tup, b_len_cdt, b_len_str, b_all, b_int_int, b_int_bl, b_int_str, b_str_int, b_str_str, b_isinst, b_list_lst, b_list_dct, b_tuple_lst, strK_str, m_sw, fk_sh, fk_fr, fk_ex, fl_ok, fl_ex, lfl_ok, lfl_ex, fc_b, fc_ex, seq_nx, seq_rt, seq_ex, seq_bk, seq_ct, ofFl_rt, ofFl_nx, ofFl_ex, turn_nx, turn_ct, turn_bk, turn_rt, turn_ex, it_lst, it_tup, it_str, it_rng1, it_rng2, it_enum, cmpR_eq c_ne_bl, cmpR_eq c_eq_bl, List.length_cons, List.length_nil, Nat.zero_add, Nat.reduceAdd, Nat.reduceLeDiff, BEq.rfl, clr, slots, Option.map, tgB, List.set_cons_zero, List.set_cons_succ, calR, toSl, Bool.false_eq_true, if_false, if_true, rtlR, frzL, frz1, List.foldl_cons, List.foldl_nil, owOf, ownK, lstK, appP, owS, raiR, tupR, lstR, Bool.not_true, Bool.not_false, nobF, ofF, ty_int0, ty_int1, ty_int2, ty_int3, ty_int4, is23_int, ty_str0, ty_str1, ty_str2, ty_str3, ty_str4, is23_str, ty_lst0, ty_lst1, ty_lst2, ty_lst3, ty_lst4, is23_lst, ty_tup0, ty_tup1, ty_tup2, ty_tup3, ty_tup4, is23_tup, ty_bl0, ty_bl1, ty_bl2, ty_bl3, ty_bl4, is23_bl, ty_non0, ty_non1, ty_non2, ty_non3, ty_non4, is23_non, h, rdRs, rdPV, Fl.hand] <;> rfl
end Wk81
set_option Elab.async false
set_option linter.all false
set_option maxRecDepth 100000
set_option maxHeartbeats 2000000
namespace Wk81
open EV
theorem cut01 {α : Type} (a : α) (r : List α) : cut (a :: r) none (some 1) = [a] := by
  unfold cut clp
  simp only
  rw [if_neg (by decide)]
  have e : min (1 : Int).toNat (a :: r).length = 1 := by show min 1 (r.length + 1) = 1; omega
  rw [e]
  simp
theorem cut2n {α : Type} (a b : α) (r : List α) : cut (a :: b :: r) (some 2) none = r := by
  unfold cut clp
  simp only
  rw [if_neg (by decide)]
  have e : min (2 : Int).toNat (a :: b :: r).length = 2 := by show min 2 (r.length + 1 + 1) = 2; omega
  rw [e]
  apply List.take_of_length_le
  simp
theorem cut1n {α : Type} (a : α) (r : List α) : cut (a :: r) (some 1) none = r := by
  unfold cut clp
  simp only
  rw [if_neg (by decide)]
  have e : min (1 : Int).toNat (a :: r).length = 1 := by show min 1 (r.length + 1) = 1; omega
  rw [e]
  apply List.take_of_length_le
  simp
theorem c_ne_str2 (a b : List Nat) : cmpP .ne (.str a) (.str b) = some (!(a == b)) := c_ne_str
theorem f20 (d : Nat) (s : List Nat) (hs : s.length ≤ 7000000) : callF P (d + 2) 20 [.str s] = .ok .sh (oW (wlOf s)) := by
  rw [e20]
  have hlen := splitLen 32 s
  have hsp : mthP .split (.str s) [.str [32]] = .ok .fr (.lst ((splitOn 32 s).map .str)) := m_split (by decide)
  unfold wlOf b20
  match hq : splitOn 32 s with
  | [] => rw [hq] at hsp; rw [stp (env' := [.sh (.str s), .ow (.lst []), .un]) (by simp -implicitDefEqProofs only [execs, exec, ev, evs, evC, evP, execM, List.getElem?_cons_zero, List.getElem?_cons_succ, sl_sh, sl_ow, sl_sht, sl_owt, fin_f, fin_t, cons_sh, cons_fr, cons_bo, cons_ex, cons_ok_ex, lbind_ok, lbind_ex, bind_ok, bind_ex, cond_b, kp_sh, kp_fr, kp_ex, tru_bl, tru_ex, tru_lst, tru_str, ofB_some', ofV_some, ofO_some, nox_ok, chnR_eq c_le_int, cmpR_eq c_le_int, cmpR_eq c_lt_int, cmpR_eq c_ge_int, cmpR_eq c_gt_int, cmpR_eq c_eq_int, cmpR_eq c_ne_int, cmpR_eq c_eq_str, cmpR_eq c_ne_str, cmpR_eq c_in_sgn, cmpR_eq c_nin_sgn, cmpR_eq c_is_non, cmpR_eq c_isnot_non, b_len_lst, b_len_tup, b_len_cdt, b_len_str, b_all, b_int_int, b_int_bl, b_int_str, b_str_int, b_str_str, b_isinst, b_list_lst, b_list_dct, b_tuple_lst, strK_str, m_sw, fk_sh, fk_fr, fk_ex, fl_ok, fl_ex, lfl_ok, lfl_ex, fc_b, fc_ex, seq_nx, seq_rt, seq_ex, seq_bk, seq_ct, ofFl_rt, ofFl_nx, ofFl_ex, turn_nx, turn_ct, turn_bk, turn_rt, turn_ex, it_lst, it_tup, it_str, it_rng1, it_rng2, it_enum, cmpR_eq c_ne_bl, cmpR_eq c_eq_bl, List.length_cons, List.length_nil, Nat.zero_add, Nat.reduceAdd, Nat.reduceLeDiff, BEq.rfl, clr, slots, Option.map, tgB, List.set_cons_zero, List.set_cons_succ, calR, toSl, Bool.false_eq_true, if_false, if_true, rtlR, frzL, frz1, List.foldl_cons, List.foldl_nil, owOf, ownK, lstK, appP, owS, raiR, tupR, lstR, Bool.not_true, Bool.not_false, nobF, ofF, ty_int0, ty_int1, ty_int2, ty_int3, ty_int4, is23_int, ty_str0, ty_str1, ty_str2, ty_str3, ty_str4, is23_str, ty_lst0, ty_lst1, ty_lst2, ty_lst3, ty_lst4, is23_lst, ty_tup0, ty_tup1, ty_tup2, ty_tup3, ty_tup4, is23_tup, ty_bl0, ty_bl1, ty_bl2, ty_bl3, ty_bl4, is23_bl, ty_non0, ty_non1, ty_non2, ty_non3, ty_non4, is23_non, hsp, List.map_nil])]; rfl
  | [a] => rw [hq] at hsp; rw [stp (env' := [.sh (.str s), .ow (.lst [.str a]), .un]) (by simp -implicitDefEqProofs only [execs, exec, ev, evs, evC, evP, execM, List.getElem?_cons_zero, List.getElem?_cons_succ, sl_sh, sl_ow, sl_sht, sl_owt, fin_f, fin_t, cons_sh, cons_fr, cons_bo, cons_ex, cons_ok_ex, lbind_ok, lbind_ex, bind_ok, bind_ex, cond_b, kp_sh, kp_fr, kp_ex, tru_bl, tru_ex, tru_lst, tru_str, ofB_some', ofV_some, ofO_some, nox_ok, chnR_eq c_le_int, cmpR_eq c_le_int, cmpR_eq c_lt_int, cmpR_eq c_ge_int, cmpR_eq c_gt_int, cmpR_eq c_eq_int, cmpR_eq c_ne_int, cmpR_eq c_eq_str, cmpR_eq c_ne_str, cmpR_eq c_in_sgn, cmpR_eq c_nin_sgn, cmpR_eq c_is_non, cmpR_eq c_isnot_non, b_len_lst, b_len_tup, b_len_cdt, b_len_str, b_all, b_int_int, b_int_bl, b_int_str, b_str_int, b_str_str, b_isinst, b_list_lst, b_list_dct, b_tuple_lst, strK_str, m_sw, fk_sh, fk_fr, fk_ex, fl_ok, fl_ex, lfl_ok, lfl_ex, fc_b, fc_ex, seq_nx, seq_rt, seq_ex, seq_bk, seq_ct, ofFl_rt, ofFl_nx, ofFl_ex, turn_nx, turn_ct, turn_bk, turn_rt, turn_ex, it_lst, it_tup, it_str, it_rng1, it_rng2, it_enum, cmpR_eq c_ne_bl, cmpR_eq c_eq_bl, List.length_cons, List.length_nil, Nat.zero_add, Nat.reduceAdd, Nat.reduceLeDiff, BEq.rfl, clr, slots, Option.map, tgB, List.set_cons_zero, List.set_cons_succ, calR, toSl, Bool.false_eq_true, if_false, if_true, rtlR, frzL, frz1, List.foldl_cons, List.foldl_nil, owOf, ownK, lstK, appP, owS, raiR, tupR, lstR, Bool.not_true, Bool.not_false, nobF, ofF, ty_int0, ty_int1, ty_int2, ty_int3, ty_int4, is23_int, ty_str0, ty_str1, ty_str2, ty_str3, ty_str4, is23_str, ty_lst0, ty_lst1, ty_lst2, ty_lst3, ty_lst4, is23_lst, ty_tup0, ty_tup1, ty_tup2, ty_tup3, ty_tup4, is23_tup, ty_bl0, ty_bl1, ty_bl2, ty_bl3, ty_bl4, is23_bl, ty_non0, ty_non1, ty_non2, ty_non3, ty_non4, is23_non, hsp, List.map_nil, List.map_cons])]; rfl
  | [a, b] => rw [hq] at hsp; rw [stp (env' := [.sh (.str s), .ow (.lst [.str a, .str b]), .un]) (by simp -implicitDefEqProofs only [execs, exec, ev, evs, evC, evP, execM, List.getElem?_cons_zero, List.getElem?_cons_succ, sl_sh, sl_ow, sl_sht, sl_owt, fin_f, fin_t, cons_sh, cons_fr, cons_bo, cons_ex, cons_ok_ex, lbind_ok, lbind_ex, bind_ok, bind_ex, cond_b, kp_sh, kp_fr, kp_ex, tru_bl, tru_ex, tru_lst, tru_str, ofB_some', ofV_some, ofO_some, nox_ok, chnR_eq c_le_int, cmpR_eq c_le_int, cmpR_eq c_lt_int, cmpR_eq c_ge_int, cmpR_eq c_gt_int, cmpR_eq c_eq_int, cmpR_eq c_ne_int, cmpR_eq c_eq_str, cmpR_eq c_ne_str, cmpR_eq c_in_sgn, cmpR_eq c_nin_sgn, cmpR_eq c_is_non, cmpR_eq c_isnot_non, b_len_lst, b_len_tup, b_len_cdt, b_len_str, b_all, b_int_int, b_int_bl, b_int_str, b_str_int, b_str_str, b_isinst, b_list_lst, b_list_dct, b_tuple_lst, strK_str, m_sw, fk_sh, fk_fr, fk_ex, fl_ok, fl_ex, lfl_ok, lfl_ex, fc_b, fc_ex, seq_nx, seq_rt, seq_ex, seq_bk, seq_ct, ofFl_rt, ofFl_nx, ofFl_ex, turn_nx, turn_ct, turn_bk, turn_rt, turn_ex, it_lst, it_tup, it_str, it_rng1, it_rng2, it_enum, cmpR_eq c_ne_bl, cmpR_eq c_eq_bl, List.length_cons, List.length_nil, Nat.zero_add, Nat.reduceAdd, Nat.reduceLeDiff, BEq.rfl, clr, slots, Option.map, tgB, List.set_cons_zero, List.set_cons_succ, calR, toSl, Bool.false_eq_true, if_false, if_true, rtlR, frzL, frz1, List.foldl_cons, List.foldl_nil, owOf, ownK, lstK, appP, owS, raiR, tupR, lstR, Bool.not_true, Bool.not_false, nobF, ofF, ty_int0, ty_int1, ty_int2, ty_int3, ty_int4, is23_int, ty_str0, ty_str1, ty_str2, ty_str3, ty_str4, is23_str, ty_lst0, ty_lst1, ty_lst2, ty_lst3, ty_lst4, is23_lst, ty_tup0, ty_tup1, ty_tup2, ty_tup3, ty_tup4, is23_tup, ty_bl0, ty_bl1, ty_bl2, ty_bl3, ty_bl4, is23_bl, ty_non0, ty_non1, ty_non2, ty_non3, ty_non4, is23_non, hsp, List.map_nil, List.map_cons])]; rfl
  | a :: b :: c :: r =>
    rw [hq] at hsp hlen
    simp -implicitDefEqProofs only [List.length_cons] at hlen
    have hLL : (LL : Nat) = 16777216 := rfl
    have hln : bltP .len [.lst ((a :: b :: c :: r).map PV.str)] = .ok .sh (.int ((r.length + 3 : Nat) : Int)) := by rw [b_len_lst, List.length_map]; exact int_congr (by simp -implicitDefEqProofs only [List.length_cons] <;> try omega)
    have h3 : decide (((r.length + 3 : Nat) : Int) < (3 : Int)) = false := decide_eq_false (by omega)
    have hat : subP (.lst ((a :: b :: c :: r).map PV.str)) (.int 1) = some (.str b) := by rw [sub_lst]; exact atP_1 _ _ _
    have hc1 : slcP (.lst ((a :: b :: c :: r).map PV.str)) none (some 1) = .ok .fr (.lst [.str a]) := by rw [slc_lst, List.map_cons, cut01]
    have hc2 : slcP (.lst ((a :: b :: c :: r).map PV.str)) (some 2) none = .ok .fr (.lst ((c :: r).map .str)) := by rw [slc_lst, List.map_cons, List.map_cons, cut2n]
    have hadd : binP .add (.lst [.str a]) (.lst ((c :: r).map .str)) = .ok .fr (.lst ((a :: c :: r).map .str)) := addL (a := [.str a]) (b := (c :: r).map .str) (by simp; omega)
    have h21 := f19 d (a :: c :: r) (by simp -implicitDefEqProofs only [List.length_cons]; omega)
    generalize (a :: b :: c :: r).map PV.str = L at hsp hln hat hc1 hc2
    generalize (c :: r).map PV.str = L2 at hc2 hadd
    generalize (a :: c :: r).map PV.str = L3 at hadd h21
    rw [stp (env' := [.sh (.str s), .ow (.lst L), .un]) (by simp -implicitDefEqProofs only [execs, exec, ev, evs, evC, evP, execM, List.getElem?_cons_zero, List.getElem?_cons_succ, sl_sh, sl_ow, sl_sht, sl_owt, fin_f, fin_t, cons_sh, cons_fr, cons_bo, cons_ex, cons_ok_ex, lbind_ok, lbind_ex, bind_ok, bind_ex, cond_b, kp_sh, kp_fr, kp_ex, tru_bl, tru_ex, tru_lst, tru_str, ofB_some', ofV_some, ofO_some, nox_ok, chnR_eq c_le_int, cmpR_eq c_le_int, cmpR_eq c_lt_int, cmpR_eq c_ge_int, cmpR_eq c_gt_int, cmpR_eq c_eq_int, cmpR_eq c_ne_int, cmpR_eq c_eq_str, cmpR_eq c_ne_str, cmpR_eq c_in_sgn, cmpR_eq c_nin_sgn, cmpR_eq c_is_non, cmpR_eq c_isnot_non, b_len_lst, b_len_tup, b_len_cdt, b_len_str, b_all, b_int_int, b_int_bl, b_int_str, b_str_int, b_str_str, b_isinst, b_list_lst, b_list_dct, b_tuple_lst, strK_str, m_sw, fk_sh, fk_fr, fk_ex, fl_ok, fl_ex, lfl_ok, lfl_ex, fc_b, fc_ex, seq_nx, seq_rt, seq_ex, seq_bk, seq_ct, ofFl_rt, ofFl_nx, ofFl_ex, turn_nx, turn_ct, turn_bk, turn_rt, turn_ex, it_lst, it_tup, it_str, it_rng1, it_rng2, it_enum, cmpR_eq c_ne_bl, cmpR_eq c_eq_bl, List.length_cons, List.length_nil, Nat.zero_add, Nat.reduceAdd, Nat.reduceLeDiff, BEq.rfl, clr, slots, Option.map, tgB, List.set_cons_zero, List.set_cons_succ, calR, toSl, Bool.false_eq_true, if_false, if_true, rtlR, frzL, frz1, List.foldl_cons, List.foldl_nil, owOf, ownK, lstK, appP, owS, raiR, tupR, lstR, Bool.not_true, Bool.not_false, nobF, ofF, ty_int0, ty_int1, ty_int2, ty_int3, ty_int4, is23_int, ty_str0, ty_str1, ty_str2, ty_str3, ty_str4, is23_str, ty_lst0, ty_lst1, ty_lst2, ty_lst3, ty_lst4, is23_lst, ty_tup0, ty_tup1, ty_tup2, ty_tup3, ty_tup4, is23_tup, ty_bl0, ty_bl1, ty_bl2, ty_bl3, ty_bl4, is23_bl, ty_non0, ty_non1, ty_non2, ty_non3, ty_non4, is23_non, hsp])]
    by_cases hb : b = [58]
    · subst hb
      rw [wl1_y]
      have hb' : (([58] : List Nat) == [58]) = true := rfl
      rw [stp (env' := [.sh (.str s), .ow (.lst L), .un]) (by simp -implicitDefEqProofs only [execs, exec, ev, evs, evC, evP, execM, List.getElem?_cons_zero, List.getElem?_cons_succ, sl_sh, sl_ow, sl_sht, sl_owt, fin_f, fin_t, cons_sh, cons_fr, cons_bo, cons_ex, cons_ok_ex, lbind_ok, lbind_ex, bind_ok, bind_ex, cond_b, kp_sh, kp_fr, kp_ex, tru_bl, tru_ex, tru_lst, tru_str, ofB_some', ofV_some, ofO_some, nox_ok, chnR_eq c_le_int, cmpR_eq c_le_int, cmpR_eq c_lt_int, cmpR_eq c_ge_int, cmpR_eq c_gt_int, cmpR_eq c_eq_int, cmpR_eq c_ne_int, cmpR_eq c_eq_str, cmpR_eq c_ne_str, cmpR_eq c_in_sgn, cmpR_eq c_nin_sgn, cmpR_eq c_is_non, cmpR_eq c_isnot_non, b_len_lst, b_len_tup, b_len_cdt, b_len_str, b_all, b_int_int, b_int_bl, b_int_str, b_str_int, b_str_str, b_isinst, b_list_lst, b_list_dct, b_tuple_lst, strK_str, m_sw, fk_sh, fk_fr, fk_ex, fl_ok, fl_ex, lfl_ok, lfl_ex, fc_b, fc_ex, seq_nx, seq_rt, seq_ex, seq_bk, seq_ct, ofFl_rt, ofFl_nx, ofFl_ex, turn_nx, turn_ct, turn_bk, turn_rt, turn_ex, it_lst, it_tup, it_str, it_rng1, it_rng2, it_enum, cmpR_eq c_ne_bl, cmpR_eq c_eq_bl, List.length_cons, List.length_nil, Nat.zero_add, Nat.reduceAdd, Nat.reduceLeDiff, BEq.rfl, clr, slots, Option.map, tgB, List.set_cons_zero, List.set_cons_succ, calR, toSl, Bool.false_eq_true, if_false, if_true, rtlR, frzL, frz1, List.foldl_cons, List.foldl_nil, owOf, ownK, lstK, appP, owS, raiR, tupR, lstR, Bool.not_true, Bool.not_false, nobF, ofF, ty_int0, ty_int1, ty_int2, ty_int3, ty_int4, is23_int, ty_str0, ty_str1, ty_str2, ty_str3, ty_str4, is23_str, ty_lst0, ty_lst1, ty_lst2, ty_lst3, ty_lst4, is23_lst, ty_tup0, ty_tup1, ty_tup2, ty_tup3, ty_tup4, is23_tup, ty_bl0, ty_bl1, ty_bl2, ty_bl3, ty_bl4, is23_bl, ty_non0, ty_non1, ty_non2, ty_non3, ty_non4, is23_non, hln, h3, hat, hb'])]
      unfold numsOf at h21
      cases h1 : rdNum a with
      | none =>
        rw [h1] at h21
        rw [stp (env' := [.sh (.str s), .ow (.lst L), .sh .non]) (by simp -implicitDefEqProofs only [execs, exec, ev, evs, evC, evP, execM, List.getElem?_cons_zero, List.getElem?_cons_succ, sl_sh, sl_ow, sl_sht, sl_owt, fin_f, fin_t, cons_sh, cons_fr, cons_bo, cons_ex, cons_ok_ex, lbind_ok, lbind_ex, bind_ok, bind_ex, cond_b, kp_sh, kp_fr, kp_ex, tru_bl, tru_ex, tru_lst, tru_str, ofB_some', ofV_some, ofO_some, nox_ok, chnR_eq c_le_int, cmpR_eq c_le_int, cmpR_eq c_lt_int, cmpR_eq c_ge_int, cmpR_eq c_gt_int, cmpR_eq c_eq_int, cmpR_eq c_ne_int, cmpR_eq c_eq_str, cmpR_eq c_ne_str, cmpR_eq c_in_sgn, cmpR_eq c_nin_sgn, cmpR_eq c_is_non, cmpR_eq c_isnot_non, b_len_lst, b_len_tup, b_len_cdt, b_len_str, b_all, b_int_int, b_int_bl, b_int_str, b_str_int, b_str_str, b_isinst, b_list_lst, b_list_dct, b_tuple_lst, strK_str, m_sw, fk_sh, fk_fr, fk_ex, fl_ok, fl_ex, lfl_ok, lfl_ex, fc_b, fc_ex, seq_nx, seq_rt, seq_ex, seq_bk, seq_ct, ofFl_rt, ofFl_nx, ofFl_ex, turn_nx, turn_ct, turn_bk, turn_rt, turn_ex, it_lst, it_tup, it_str, it_rng1, it_rng2, it_enum, cmpR_eq c_ne_bl, cmpR_eq c_eq_bl, List.length_cons, List.length_nil, Nat.zero_add, Nat.reduceAdd, Nat.reduceLeDiff, BEq.rfl, clr, slots, Option.map, tgB, List.set_cons_zero, List.set_cons_succ, calR, toSl, Bool.false_eq_true, if_false, if_true, rtlR, frzL, frz1, List.foldl_cons, List.foldl_nil, owOf, ownK, lstK, appP, owS, raiR, tupR, lstR, Bool.not_true, Bool.not_false, nobF, ofF, ty_int0, ty_int1, ty_int2, ty_int3, ty_int4, is23_int, ty_str0, ty_str1, ty_str2, ty_str3, ty_str4, is23_str, ty_lst0, ty_lst1, ty_lst2, ty_lst3, ty_lst4, is23_lst, ty_tup0, ty_tup1, ty_tup2, ty_tup3, ty_tup4, is23_tup, ty_bl0, ty_bl1, ty_bl2, ty_bl3, ty_bl4, is23_bl, ty_non0, ty_non1, ty_non2, ty_non3, ty_non4, is23_non, hc1, hc2, intK_int, hadd, h21])]
        simp -implicitDefEqProofs only [execs, exec, ev, evs, evC, evP, execM, List.getElem?_cons_zero, List.getElem?_cons_succ, sl_sh, sl_ow, sl_sht, sl_owt, fin_f, fin_t, cons_sh, cons_fr, cons_bo, cons_ex, cons_ok_ex, lbind_ok, lbind_ex, bind_ok, bind_ex, cond_b, kp_sh, kp_fr, kp_ex, tru_bl, tru_ex, tru_lst, tru_str, ofB_some', ofV_some, ofO_some, nox_ok, chnR_eq c_le_int, cmpR_eq c_le_int, cmpR_eq c_lt_int, cmpR_eq c_ge_int, cmpR_eq c_gt_int, cmpR_eq c_eq_int, cmpR_eq c_ne_int, cmpR_eq c_eq_str, cmpR_eq c_ne_str, cmpR_eq c_in_sgn, cmpR_eq c_nin_sgn, cmpR_eq c_is_non, cmpR_eq c_isnot_non, b_len_lst, b_len_tup, b_len_cdt, b_len_str, b_all, b_int_int, b_int_bl, b_int_str, b_str_int, b_str_str, b_isinst, b_list_lst, b_list_dct, b_tuple_lst, strK_str, m_sw, fk_sh, fk_fr, fk_ex, fl_ok, fl_ex, lfl_ok, lfl_ex, fc_b, fc_ex, seq_nx, seq_rt, seq_ex, seq_bk, seq_ct, ofFl_rt, ofFl_nx, ofFl_ex, turn_nx, turn_ct, turn_bk, turn_rt, turn_ex, it_lst, it_tup, it_str, it_rng1, it_rng2, it_enum, cmpR_eq c_ne_bl, cmpR_eq c_eq_bl, List.length_cons, List.length_nil, Nat.zero_add, Nat.reduceAdd, Nat.reduceLeDiff, BEq.rfl, clr, slots, Option.map, tgB, List.set_cons_zero, List.set_cons_succ, calR, toSl, Bool.false_eq_true, if_false, if_true, rtlR, frzL, frz1, List.foldl_cons, List.foldl_nil, owOf, ownK, lstK, appP, owS, raiR, tupR, lstR, Bool.not_true, Bool.not_false, nobF, ofF, ty_int0, ty_int1, ty_int2, ty_int3, ty_int4, is23_int, ty_str0, ty_str1, ty_str2, ty_str3, ty_str4, is23_str, ty_lst0, ty_lst1, ty_lst2, ty_lst3, ty_lst4, is23_lst, ty_tup0, ty_tup1, ty_tup2, ty_tup3, ty_tup4, is23_tup, ty_bl0, ty_bl1, ty_bl2, ty_bl3, ty_bl4, is23_bl, ty_non0, ty_non1, ty_non2, ty_non3, ty_non4, is23_non, oW]
        try rfl
      | some m =>
        rw [h1] at h21
        cases h2 : numsOf (c :: r) with
        | none =>
          rw [h2] at h21
          rw [stp (env' := [.sh (.str s), .ow (.lst L), .sh .non]) (by simp -implicitDefEqProofs only [execs, exec, ev, evs, evC, evP, execM, List.getElem?_cons_zero, List.getElem?_cons_succ, sl_sh, sl_ow, sl_sht, sl_owt, fin_f, fin_t, cons_sh, cons_fr, cons_bo, cons_ex, cons_ok_ex, lbind_ok, lbind_ex, bind_ok, bind_ex, cond_b, kp_sh, kp_fr, kp_ex, tru_bl, tru_ex, tru_lst, tru_str, ofB_some', ofV_some, ofO_some, nox_ok, chnR_eq c_le_int, cmpR_eq c_le_int, cmpR_eq c_lt_int, cmpR_eq c_ge_int, cmpR_eq c_gt_int, cmpR_eq c_eq_int, cmpR_eq c_ne_int, cmpR_eq c_eq_str, cmpR_eq c_ne_str, cmpR_eq c_in_sgn, cmpR_eq c_nin_sgn, cmpR_eq c_is_non, cmpR_eq c_isnot_non, b_len_lst, b_len_tup, b_len_cdt, b_len_str, b_all, b_int_int, b_int_bl, b_int_str, b_str_int, b_str_str, b_isinst, b_list_lst, b_list_dct, b_tuple_lst, strK_str, m_sw, fk_sh, fk_fr, fk_ex, fl_ok, fl_ex, lfl_ok, lfl_ex, fc_b, fc_ex, seq_nx, seq_rt, seq_ex, seq_bk, seq_ct, ofFl_rt, ofFl_nx, ofFl_ex, turn_nx, turn_ct, turn_bk, turn_rt, turn_ex, it_lst, it_tup, it_str, it_rng1, it_rng2, it_enum, cmpR_eq c_ne_bl, cmpR_eq c_eq_bl, List.length_cons, List.length_nil, Nat.zero_add, Nat.reduceAdd, Nat.reduceLeDiff, BEq.rfl, clr, slots, Option.map, tgB, List.set_cons_zero, List.set_cons_succ, calR, toSl, Bool.false_eq_true, if_false, if_true, rtlR, frzL, frz1, List.foldl_cons, List.foldl_nil, owOf, ownK, lstK, appP, owS, raiR, tupR, lstR, Bool.not_true, Bool.not_false, nobF, ofF, ty_int0, ty_int1, ty_int2, ty_int3, ty_int4, is23_int, ty_str0, ty_str1, ty_str2, ty_str3, ty_str4, is23_str, ty_lst0, ty_lst1, ty_lst2, ty_lst3, ty_lst4, is23_lst, ty_tup0, ty_tup1, ty_tup2, ty_tup3, ty_tup4, is23_tup, ty_bl0, ty_bl1, ty_bl2, ty_bl3, ty_bl4, is23_bl, ty_non0, ty_non1, ty_non2, ty_non3, ty_non4, is23_non, hc1, hc2, intK_int, hadd, h21])]
          simp -implicitDefEqProofs only [execs, exec, ev, evs, evC, evP, execM, List.getElem?_cons_zero, List.getElem?_cons_succ, sl_sh, sl_ow, sl_sht, sl_owt, fin_f, fin_t, cons_sh, cons_fr, cons_bo, cons_ex, cons_ok_ex, lbind_ok, lbind_ex, bind_ok, bind_ex, cond_b, kp_sh, kp_fr, kp_ex, tru_bl, tru_ex, tru_lst, tru_str, ofB_some', ofV_some, ofO_some, nox_ok, chnR_eq c_le_int, cmpR_eq c_le_int, cmpR_eq c_lt_int, cmpR_eq c_ge_int, cmpR_eq c_gt_int, cmpR_eq c_eq_int, cmpR_eq c_ne_int, cmpR_eq c_eq_str, cmpR_eq c_ne_str, cmpR_eq c_in_sgn, cmpR_eq c_nin_sgn, cmpR_eq c_is_non, cmpR_eq c_isnot_non, b_len_lst, b_len_tup, b_len_cdt, b_len_str, b_all, b_int_int, b_int_bl, b_int_str, b_str_int, b_str_str, b_isinst, b_list_lst, b_list_dct, b_tuple_lst, strK_str, m_sw, fk_sh, fk_fr, fk_ex, fl_ok, fl_ex, lfl_ok, lfl_ex, fc_b, fc_ex, seq_nx, seq_rt, seq_ex, seq_bk, seq_ct, ofFl_rt, ofFl_nx, ofFl_ex, turn_nx, turn_ct, turn_bk, turn_rt, turn_ex, it_lst, it_tup, it_str, it_rng1, it_rng2, it_enum, cmpR_eq c_ne_bl, cmpR_eq c_eq_bl, List.length_cons, List.length_nil, Nat.zero_add, Nat.reduceAdd, Nat.reduceLeDiff, BEq.rfl, clr, slots, Option.map, tgB, List.set_cons_zero, List.set_cons_succ, calR, toSl, Bool.false_eq_true, if_false, if_true, rtlR, frzL, frz1, List.foldl_cons, List.foldl_nil, owOf, ownK, lstK, appP, owS, raiR, tupR, lstR, Bool.not_true, Bool.not_false, nobF, ofF, ty_int0, ty_int1, ty_int2, ty_int3, ty_int4, is23_int, ty_str0, ty_str1, ty_str2, ty_str3, ty_str4, is23_str, ty_lst0, ty_lst1, ty_lst2, ty_lst3, ty_lst4, is23_lst, ty_tup0, ty_tup1, ty_tup2, ty_tup3, ty_tup4, is23_tup, ty_bl0, ty_bl1, ty_bl2, ty_bl3, ty_bl4, is23_bl, ty_non0, ty_non1, ty_non2, ty_non3, ty_non4, is23_non, oW]
          try rfl
        | some l =>
          rw [h2] at h21
          have hc3 : slcP (.lst ((m :: l).map fun (n : Nat) => PV.int (n : Int))) (some 1) none = .ok .fr (encL l) := by rw [slc_lst, List.map_cons, cut1n]; rfl
          have ha0 : subP (.lst ((m :: l).map fun (n : Nat) => PV.int (n : Int))) (.int 0) = some (.int (m : Int)) := by rw [sub_lst]; exact atP_0 _ _
          simp only at h21
          generalize (m :: l).map (fun (n : Nat) => PV.int (n : Int)) = M at h21 hc3 ha0
          rw [stp (env' := [.sh (.str s), .ow (.lst L), .ow (.lst M)]) (by simp -implicitDefEqProofs only [execs, exec, ev, evs, evC, evP, execM, List.getElem?_cons_zero, List.getElem?_cons_succ, sl_sh, sl_ow, sl_sht, sl_owt, fin_f, fin_t, cons_sh, cons_fr, cons_bo, cons_ex, cons_ok_ex, lbind_ok, lbind_ex, bind_ok, bind_ex, cond_b, kp_sh, kp_fr, kp_ex, tru_bl, tru_ex, tru_lst, tru_str, ofB_some', ofV_some, ofO_some, nox_ok, chnR_eq c_le_int, cmpR_eq c_le_int, cmpR_eq c_lt_int, cmpR_eq c_ge_int, cmpR_eq c_gt_int, cmpR_eq c_eq_int, cmpR_eq c_ne_int, cmpR_eq c_eq_str, cmpR_eq c_ne_str, cmpR_eq c_in_sgn, cmpR_eq c_nin_sgn, cmpR_eq c_is_non, cmpR_eq c_isnot_non, b_len_lst, b_len_tup, b_len_cdt, b_len_str, b_all, b_int_int, b_int_bl, b_int_str, b_str_int, b_str_str, b_isinst, b_list_lst, b_list_dct, b_tuple_lst, strK_str, m_sw, fk_sh, fk_fr, fk_ex, fl_ok, fl_ex, lfl_ok, lfl_ex, fc_b, fc_ex, seq_nx, seq_rt, seq_ex, seq_bk, seq_ct, ofFl_rt, ofFl_nx, ofFl_ex, turn_nx, turn_ct, turn_bk, turn_rt, turn_ex, it_lst, it_tup, it_str, it_rng1, it_rng2, it_enum, cmpR_eq c_ne_bl, cmpR_eq c_eq_bl, List.length_cons, List.length_nil, Nat.zero_add, Nat.reduceAdd, Nat.reduceLeDiff, BEq.rfl, clr, slots, Option.map, tgB, List.set_cons_zero, List.set_cons_succ, calR, toSl, Bool.false_eq_true, if_false, if_true, rtlR, frzL, frz1, List.foldl_cons, List.foldl_nil, owOf, ownK, lstK, appP, owS, raiR, tupR, lstR, Bool.not_true, Bool.not_false, nobF, ofF, ty_int0, ty_int1, ty_int2, ty_int3, ty_int4, is23_int, ty_str0, ty_str1, ty_str2, ty_str3, ty_str4, is23_str, ty_lst0, ty_lst1, ty_lst2, ty_lst3, ty_lst4, is23_lst, ty_tup0, ty_tup1, ty_tup2, ty_tup3, ty_tup4, is23_tup, ty_bl0, ty_bl1, ty_bl2, ty_bl3, ty_bl4, is23_bl, ty_non0, ty_non1, ty_non2, ty_non3, ty_non4, is23_non, hc1, hc2, intK_int, hadd, h21])]
          rw [stp (env' := [.sh (.str s), .ow (.lst L), .ow (.lst M)]) (by simp -implicitDefEqProofs only [execs, exec, ev, evs, evC, evP, execM, List.getElem?_cons_zero, List.getElem?_cons_succ, sl_sh, sl_ow, sl_sht, sl_owt, fin_f, fin_t, cons_sh, cons_fr, cons_bo, cons_ex, cons_ok_ex, lbind_ok, lbind_ex, bind_ok, bind_ex, cond_b, kp_sh, kp_fr, kp_ex, tru_bl, tru_ex, tru_lst, tru_str, ofB_some', ofV_some, ofO_some, nox_ok, chnR_eq c_le_int, cmpR_eq c_le_int, cmpR_eq c_lt_int, cmpR_eq c_ge_int, cmpR_eq c_gt_int, cmpR_eq c_eq_int, cmpR_eq c_ne_int, cmpR_eq c_eq_str, cmpR_eq c_ne_str, cmpR_eq c_in_sgn, cmpR_eq c_nin_sgn, cmpR_eq c_is_non, cmpR_eq c_isnot_non, b_len_lst, b_len_tup, b_len_cdt, b_len_str, b_all, b_int_int, b_int_bl, b_int_str, b_str_int, b_str_str, b_isinst, b_list_lst, b_list_dct, b_tuple_lst, strK_str, m_sw, fk_sh, fk_fr, fk_ex, fl_ok, fl_ex, lfl_ok, lfl_ex, fc_b, fc_ex, seq_nx, seq_rt, seq_ex, seq_bk, seq_ct, ofFl_rt, ofFl_nx, ofFl_ex, turn_nx, turn_ct, turn_bk, turn_rt, turn_ex, it_lst, it_tup, it_str, it_rng1, it_rng2, it_enum, cmpR_eq c_ne_bl, cmpR_eq c_eq_bl, List.length_cons, List.length_nil, Nat.zero_add, Nat.reduceAdd, Nat.reduceLeDiff, BEq.rfl, clr, slots, Option.map, tgB, List.set_cons_zero, List.set_cons_succ, calR, toSl, Bool.false_eq_true, if_false, if_true, rtlR, frzL, frz1, List.foldl_cons, List.foldl_nil, owOf, ownK, lstK, appP, owS, raiR, tupR, lstR, Bool.not_true, Bool.not_false, nobF, ofF, ty_int0, ty_int1, ty_int2, ty_int3, ty_int4, is23_int, ty_str0, ty_str1, ty_str2, ty_str3, ty_str4, is23_str, ty_lst0, ty_lst1, ty_lst2, ty_lst3, ty_lst4, is23_lst, ty_tup0, ty_tup1, ty_tup2, ty_tup3, ty_tup4, is23_tup, ty_bl0, ty_bl1, ty_bl2, ty_bl3, ty_bl4, is23_bl, ty_non0, ty_non1, ty_non2, ty_non3, ty_non4, is23_non, isNonP])]
          simp -implicitDefEqProofs only [execs, exec, ev, evs, evC, evP, execM, List.getElem?_cons_zero, List.getElem?_cons_succ, sl_sh, sl_ow, sl_sht, sl_owt, fin_f, fin_t, cons_sh, cons_fr, cons_bo, cons_ex, cons_ok_ex, lbind_ok, lbind_ex, bind_ok, bind_ex, cond_b, kp_sh, kp_fr, kp_ex, tru_bl, tru_ex, tru_lst, tru_str, ofB_some', ofV_some, ofO_some, nox_ok, chnR_eq c_le_int, cmpR_eq c_le_int, cmpR_eq c_lt_int, cmpR_eq c_ge_int, cmpR_eq c_gt_int, cmpR_eq c_eq_int, cmpR_eq c_ne_int, cmpR_eq c_eq_str, cmpR_eq c_ne_str, cmpR_eq c_in_sgn, cmpR_eq c_nin_sgn, cmpR_eq c_is_non, cmpR_eq c_isnot_non, b_len_lst, b_len_tup, b_len_cdt, b_len_str, b_all, b_int_int, b_int_bl, b_int_str, b_str_int, b_str_str, b_isinst, b_list_lst, b_list_dct, b_tuple_lst, strK_str, m_sw, fk_sh, fk_fr, fk_ex, fl_ok, fl_ex, lfl_ok, lfl_ex, fc_b, fc_ex, seq_nx, seq_rt, seq_ex, seq_bk, seq_ct, ofFl_rt, ofFl_nx, ofFl_ex, turn_nx, turn_ct, turn_bk, turn_rt, turn_ex, it_lst, it_tup, it_str, it_rng1, it_rng2, it_enum, cmpR_eq c_ne_bl, cmpR_eq c_eq_bl, List.length_cons, List.length_nil, Nat.zero_add, Nat.reduceAdd, Nat.reduceLeDiff, BEq.rfl, clr, slots, Option.map, tgB, List.set_cons_zero, List.set_cons_succ, calR, toSl, Bool.false_eq_true, if_false, if_true, rtlR, frzL, frz1, List.foldl_cons, List.foldl_nil, owOf, ownK, lstK, appP, owS, raiR, tupR, lstR, Bool.not_true, Bool.not_false, nobF, ofF, ty_int0, ty_int1, ty_int2, ty_int3, ty_int4, is23_int, ty_str0, ty_str1, ty_str2, ty_str3, ty_str4, is23_str, ty_lst0, ty_lst1, ty_lst2, ty_lst3, ty_lst4, is23_lst, ty_tup0, ty_tup1, ty_tup2, ty_tup3, ty_tup4, is23_tup, ty_bl0, ty_bl1, ty_bl2, ty_bl3, ty_bl4, is23_bl, ty_non0, ty_non1, ty_non2, ty_non3, ty_non4, is23_non, oW, wV, intK_int, hc3, ha0]
          try rfl
    · rw [wl1_n a b c r hb]
      have hb' : (b == [58]) = false := by simp [hb]
      simp -implicitDefEqProofs only [execs, exec, ev, evs, evC, evP, execM, List.getElem?_cons_zero, List.getElem?_cons_succ, sl_sh, sl_ow, sl_sht, sl_owt, fin_f, fin_t, cons_sh, cons_fr, cons_bo, cons_ex, cons_ok_ex, lbind_ok, lbind_ex, bind_ok, bind_ex, cond_b, kp_sh, kp_fr, kp_ex, tru_bl, tru_ex, tru_lst, tru_str, ofB_some', ofV_some, ofO_some, nox_ok, chnR_eq c_le_int, cmpR_eq c_le_int, cmpR_eq c_lt_int, cmpR_eq c_ge_int, cmpR_eq c_gt_int, cmpR_eq c_eq_int, cmpR_eq c_ne_int, cmpR_eq c_eq_str, cmpR_eq c_ne_str, cmpR_eq c_in_sgn, cmpR_eq c_nin_sgn, cmpR_eq c_is_non, cmpR_eq c_isnot_non, b_len_lst, b_len_tup, b_len_cdt, b_len_str, b_all, b_int_int, b_int_bl, b_int_str, b_str_int, b_str_str, b_isinst, b_list_lst, b_list_dct, b_tuple_lst, strK_str, m_sw, fk_sh, fk_fr, fk_ex, fl_ok, fl_ex, lfl_ok, lfl_ex, fc_b, fc_ex, seq_nx, seq_rt, seq_ex, seq_bk, seq_ct, ofFl_rt, ofFl_nx, ofFl_ex, turn_nx, turn_ct, turn_bk, turn_rt, turn_ex, it_lst, it_tup, it_str, it_rng1, it_rng2, it_enum, cmpR_eq c_ne_bl, cmpR_eq c_eq_bl, List.length_cons, List.length_nil, Nat.zero_add, Nat.reduceAdd, Nat.reduceLeDiff, BEq.rfl, clr, slots, Option.map, tgB, List.set_cons_zero, List.set_cons_succ, calR, toSl, Bool.false_eq_true, if_false, if_true, rtlR, frzL, frz1, List.foldl_cons, List.foldl_nil, owOf, ownK, lstK, appP, owS, raiR, tupR, lstR, Bool.not_true, Bool.not_false, nobF, ofF, ty_int0, ty_int1, ty_int2, ty_int3, ty_int4, is23_int, ty_str0, ty_str1, ty_str2, ty_str3, ty_str4, is23_str, ty_lst0, ty_lst1, ty_lst2, ty_lst3, ty_lst4, is23_lst, ty_tup0, ty_tup1, ty_tup2, ty_tup3, ty_tup4, is23_tup, ty_bl0, ty_bl1, ty_bl2, ty_bl3, ty_bl4, is23_bl, ty_non0, ty_non1, ty_non2, ty_non3, ty_non4, is23_non, hln, h3, hat, hb', oW]
theorem split_one (c : Nat) : ∀ (s l : List Nat), splitOn c s = [l] → l = s
  | [], l, h => by
    simp -implicitDefEqProofs only [splitOn, List.cons.injEq, and_true] at h
    exact h.symm
  | a :: r, l, h => by
    have hne := splitNe c r
    have ih := split_one c r
    unfold splitOn at h
    generalize splitOn c r = q at h hne ih
    by_cases ha : a = c
    · rw [if_pos ha] at h
      injection h with _ h
      rw [h] at hne
      cases hne
    · rw [if_neg ha] at h
      match q, hne with
      | w :: ws, _ =>
        simp -implicitDefEqProofs only [List.cons.injEq] at h
        obtain ⟨h1, h2⟩ := h
        rw [← h1, ih w (by rw [h2])]
theorem f21 (d : Nat) (w : Int) (s : List Nat) (hs : s.length ≤ 7000000) : callF P (d + 3) 21 [.int w, .str s] = .ok .sh (rdPV (rdW s)) := by
  rw [e21]
  have hlen := splitLen 10 s
  have hmem := splitOn_mem 10 s
  have hone := split_one 10 s
  have hne := splitNe 10 s
  unfold b21
  rw [stp (env' := [.sh (.int w), .sh (.str s), .ow (.lst ((splitOn 10 s).map PV.str)), .un, .un, .un, .un]) (by simp -implicitDefEqProofs only [execs, exec, ev, evs, evC, evP, execM, List.getElem?_cons_zero, List.getElem?_cons_succ, sl_sh, sl_ow, sl_sht, sl_owt, fin_f, fin_t, cons_sh, cons_fr, cons_bo, cons_ex, cons_ok_ex, lbind_ok, lbind_ex, bind_ok, bind_ex, cond_b, kp_sh, kp_fr, kp_ex, tru_bl, tru_ex, tru_lst, tru_str, ofB_some', ofV_some, ofO_some, nox_ok, chnR_eq c_le_int, cmpR_eq c_le_int, cmpR_eq c_lt_int, cmpR_eq c_ge_int, cmpR_eq c_gt_int, cmpR_eq c_eq_int, cmpR_eq c_ne_int, cmpR_eq c_eq_str, cmpR_eq c_ne_str, cmpR_eq c_in_sgn, cmpR_eq c_nin_sgn, cmpR_eq c_is_non, cmpR_eq c_isnot_non, b_len_lst, b_len_tup, b_len_cdt, b_len_str, b_all, b_int_int, b_int_bl, b_int_str, b_str_int, b_str_str, b_isinst, b_list_lst, b_list_dct, b_tuple_lst, strK_str, m_sw, fk_sh, fk_fr, fk_ex, fl_ok, fl_ex, lfl_ok, lfl_ex, fc_b, fc_ex, seq_nx, seq_rt, seq_ex, seq_bk, seq_ct, ofFl_rt, ofFl_nx, ofFl_ex, turn_nx, turn_ct, turn_bk, turn_rt, turn_ex, it_lst, it_tup, it_str, it_rng1, it_rng2, it_enum, cmpR_eq c_ne_bl, cmpR_eq c_eq_bl, List.length_cons, List.length_nil, Nat.zero_add, Nat.reduceAdd, Nat.reduceLeDiff, BEq.rfl, clr, slots, Option.map, tgB, List.set_cons_zero, List.set_cons_succ, calR, toSl, Bool.false_eq_true, if_false, if_true, rtlR, frzL, frz1, List.foldl_cons, List.foldl_nil, owOf, ownK, lstK, appP, owS, raiR, tupR, lstR, Bool.not_true, Bool.not_false, nobF, ofF, ty_int0, ty_int1, ty_int2, ty_int3, ty_int4, is23_int, ty_str0, ty_str1, ty_str2, ty_str3, ty_str4, is23_str, ty_lst0, ty_lst1, ty_lst2, ty_lst3, ty_lst4, is23_lst, ty_tup0, ty_tup1, ty_tup2, ty_tup3, ty_tup4, is23_tup, ty_bl0, ty_bl1, ty_bl2, ty_bl3, ty_bl4, is23_bl, ty_non0, ty_non1, ty_non2, ty_non3, ty_non4, is23_non, m_split (show 10 < 128 by decide)])]
  unfold rdW rdW1
  have hlt := f20 d s hs
  generalize splitOn 10 s = ls at hlen hmem hone hne
  have hsub : ∀ j : Nat, (hj : j < ls.length) → subP (.lst (ls.map PV.str)) (.int (j : Int)) = some (.str ls[j]) := fun j hj => str_at ls j hj
  have hl : ls.length ≤ 8000000 := by omega
  have hbad : ∀ j, (hj : j < ls.length) → atBad isNone' (ls.map wlOf) j = isNone' (wlOf ls[j]) := by
    intro j hj
    rw [atBad_lt _ _ _ (by simpa using hj)]
    simp
  have hloop : exec ⟨callF P (d + 2), par, 4⟩ (.for (.v 3) .rng (.cons (.blt .len (.cons (.loc 2) .nil)) .nil)
     (.cons (.ifs (.cmp .is (.call 20 (.cons (.sub (.loc 2) (.loc 3)) .nil)) (.cst .non)) (.cons (.frz [3] (.ret (.tup (.cons (.cst (.bl false)) (.cons (.loc 3) .nil))))) .nil) .nil) .nil) [3]) [.sh (.int w), .sh (.str s), .ow (.lst (ls.map PV.str)), .un, .un, .un, .un] =
     match (ls.map wlOf).findIdx? isNone' with
      | some i => .rt .sh (.tup [.bl false, .int i])
      | none => .nx [.sh (.int w), .sh (.str s), .ow (.lst (ls.map PV.str)), .un, .un, .un, .un] := by
    refine (for_rng ls.length (by simp -implicitDefEqProofs only [execs, exec, ev, evs, evC, evP, execM, List.getElem?_cons_zero, List.getElem?_cons_succ, sl_sh, sl_ow, sl_sht, sl_owt, fin_f, fin_t, cons_sh, cons_fr, cons_bo, cons_ex, cons_ok_ex, lbind_ok, lbind_ex, bind_ok, bind_ex, cond_b, kp_sh, kp_fr, kp_ex, tru_bl, tru_ex, tru_lst, tru_str, ofB_some', ofV_some, ofO_some, nox_ok, chnR_eq c_le_int, cmpR_eq c_le_int, cmpR_eq c_lt_int, cmpR_eq c_ge_int, cmpR_eq c_gt_int, cmpR_eq c_eq_int, cmpR_eq c_ne_int, cmpR_eq c_eq_str, cmpR_eq c_ne_str, cmpR_eq c_in_sgn, cmpR_eq c_nin_sgn, cmpR_eq c_is_non, cmpR_eq c_isnot_non, b_len_lst, b_len_tup, b_len_cdt, b_len_str, b_all, b_int_int, b_int_bl, b_int_str, b_str_int, b_str_str, b_isinst, b_list_lst, b_list_dct, b_tuple_lst, strK_str, m_sw, fk_sh, fk_fr, fk_ex, fl_ok, fl_ex, lfl_ok, lfl_ex, fc_b, fc_ex, seq_nx, seq_rt, seq_ex, seq_bk, seq_ct, ofFl_rt, ofFl_nx, ofFl_ex, turn_nx, turn_ct, turn_bk, turn_rt, turn_ex, it_lst, it_tup, it_str, it_rng1, it_rng2, it_enum, cmpR_eq c_ne_bl, cmpR_eq c_eq_bl, List.length_cons, List.length_nil, Nat.zero_add, Nat.reduceAdd, Nat.reduceLeDiff, BEq.rfl, clr, slots, Option.map, tgB, List.set_cons_zero, List.set_cons_succ, calR, toSl, Bool.false_eq_true, if_false, if_true, rtlR, frzL, frz1, List.foldl_cons, List.foldl_nil, owOf, ownK, lstK, appP, owS, raiR, tupR, lstR, Bool.not_true, Bool.not_false, nobF, ofF, ty_int0, ty_int1, ty_int2, ty_int3, ty_int4, is23_int, ty_str0, ty_str1, ty_str2, ty_str3, ty_str4, is23_str, ty_lst0, ty_lst1, ty_lst2, ty_lst3, ty_lst4, is23_lst, ty_tup0, ty_tup1, ty_tup2, ty_tup3, ty_tup4, is23_tup, ty_bl0, ty_bl1, ty_bl2, ty_bl3, ty_bl4, is23_bl, ty_non0, ty_non1, ty_non2, ty_non3, ty_non4, is23_non, List.length_map]) hl (fun _ => [.sh (.int w), .sh (.str s), .ow (.lst (ls.map PV.str)), .un, .un, .un, .un]) (fun j => [.sh (.int w), .sh (.str s), .ow (.lst (ls.map PV.str)), .sh (.int (j : Int)), .un, .un, .un]) (atBad isNone' (ls.map wlOf)) (fun j => .rt .sh (.tup [.bl false, .int j])) rfl (fun j k => rfl) (fun j hj => by
      rw [hbad j hj]
      have h21 := f20 d ls[j] (by have := hmem _ (List.getElem_mem hj); omega)
      cases hq : wlOf ls[j] with
      | none =>
        rw [hq] at h21
        simp -implicitDefEqProofs only [execs, exec, ev, evs, evC, evP, execM, List.getElem?_cons_zero, List.getElem?_cons_succ, sl_sh, sl_ow, sl_sht, sl_owt, fin_f, fin_t, cons_sh, cons_fr, cons_bo, cons_ex, cons_ok_ex, lbind_ok, lbind_ex, bind_ok, bind_ex, cond_b, kp_sh, kp_fr, kp_ex, tru_bl, tru_ex, tru_lst, tru_str, ofB_some', ofV_some, ofO_some, nox_ok, chnR_eq c_le_int, cmpR_eq c_le_int, cmpR_eq c_lt_int, cmpR_eq c_ge_int, cmpR_eq c_gt_int, cmpR_eq c_eq_int, cmpR_eq c_ne_int, cmpR_eq c_eq_str, cmpR_eq c_ne_str, cmpR_eq c_in_sgn, cmpR_eq c_nin_sgn, cmpR_eq c_is_non, cmpR_eq c_isnot_non, b_len_lst, b_len_tup, b_len_cdt, b_len_str, b_all, b_int_int, b_int_bl, b_int_str, b_str_int, b_str_str, b_isinst, b_list_lst, b_list_dct, b_tuple_lst, strK_str, m_sw, fk_sh, fk_fr, fk_ex, fl_ok, fl_ex, lfl_ok, lfl_ex, fc_b, fc_ex, seq_nx, seq_rt, seq_ex, seq_bk, seq_ct, ofFl_rt, ofFl_nx, ofFl_ex, turn_nx, turn_ct, turn_bk, turn_rt, turn_ex, it_lst, it_tup, it_str, it_rng1, it_rng2, it_enum, cmpR_eq c_ne_bl, cmpR_eq c_eq_bl, List.length_cons, List.length_nil, Nat.zero_add, Nat.reduceAdd, Nat.reduceLeDiff, BEq.rfl, clr, slots, Option.map, tgB, List.set_cons_zero, List.set_cons_succ, calR, toSl, Bool.false_eq_true, if_false, if_true, rtlR, frzL, frz1, List.foldl_cons, List.foldl_nil, owOf, ownK, lstK, appP, owS, raiR, tupR, lstR, Bool.not_true, Bool.not_false, nobF, ofF, ty_int0, ty_int1, ty_int2, ty_int3, ty_int4, is23_int, ty_str0, ty_str1, ty_str2, ty_str3, ty_str4, is23_str, ty_lst0, ty_lst1, ty_lst2, ty_lst3, ty_lst4, is23_lst, ty_tup0, ty_tup1, ty_tup2, ty_tup3, ty_tup4, is23_tup, ty_bl0, ty_bl1, ty_bl2, ty_bl3, ty_bl4, is23_bl, ty_non0, ty_non1, ty_non2, ty_non3, ty_non4, is23_non, hsub j hj, h21, isNonP, isNone', oW]
      | some r =>
        rw [hq] at h21
        simp -implicitDefEqProofs only [execs, exec, ev, evs, evC, evP, execM, List.getElem?_cons_zero, List.getElem?_cons_succ, sl_sh, sl_ow, sl_sht, sl_owt, fin_f, fin_t, cons_sh, cons_fr, cons_bo, cons_ex, cons_ok_ex, lbind_ok, lbind_ex, bind_ok, bind_ex, cond_b, kp_sh, kp_fr, kp_ex, tru_bl, tru_ex, tru_lst, tru_str, ofB_some', ofV_some, ofO_some, nox_ok, chnR_eq c_le_int, cmpR_eq c_le_int, cmpR_eq c_lt_int, cmpR_eq c_ge_int, cmpR_eq c_gt_int, cmpR_eq c_eq_int, cmpR_eq c_ne_int, cmpR_eq c_eq_str, cmpR_eq c_ne_str, cmpR_eq c_in_sgn, cmpR_eq c_nin_sgn, cmpR_eq c_is_non, cmpR_eq c_isnot_non, b_len_lst, b_len_tup, b_len_cdt, b_len_str, b_all, b_int_int, b_int_bl, b_int_str, b_str_int, b_str_str, b_isinst, b_list_lst, b_list_dct, b_tuple_lst, strK_str, m_sw, fk_sh, fk_fr, fk_ex, fl_ok, fl_ex, lfl_ok, lfl_ex, fc_b, fc_ex, seq_nx, seq_rt, seq_ex, seq_bk, seq_ct, ofFl_rt, ofFl_nx, ofFl_ex, turn_nx, turn_ct, turn_bk, turn_rt, turn_ex, it_lst, it_tup, it_str, it_rng1, it_rng2, it_enum, cmpR_eq c_ne_bl, cmpR_eq c_eq_bl, List.length_cons, List.length_nil, Nat.zero_add, Nat.reduceAdd, Nat.reduceLeDiff, BEq.rfl, clr, slots, Option.map, tgB, List.set_cons_zero, List.set_cons_succ, calR, toSl, Bool.false_eq_true, if_false, if_true, rtlR, frzL, frz1, List.foldl_cons, List.foldl_nil, owOf, ownK, lstK, appP, owS, raiR, tupR, lstR, Bool.not_true, Bool.not_false, nobF, ofF, ty_int0, ty_int1, ty_int2, ty_int3, ty_int4, is23_int, ty_str0, ty_str1, ty_str2, ty_str3, ty_str4, is23_str, ty_lst0, ty_lst1, ty_lst2, ty_lst3, ty_lst4, is23_lst, ty_tup0, ty_tup1, ty_tup2, ty_tup3, ty_tup4, is23_tup, ty_bl0, ty_bl1, ty_bl2, ty_bl3, ty_bl4, is23_bl, ty_non0, ty_non1, ty_non2, ty_non3, ty_non4, is23_non, hsub j hj, h21, isNonP, isNone', oW, wV]) (fun j hj hb => by simp -implicitDefEqProofs only [execs, exec, ev, evs, evC, evP, execM, List.getElem?_cons_zero, List.getElem?_cons_succ, sl_sh, sl_ow, sl_sht, sl_owt, fin_f, fin_t, cons_sh, cons_fr, cons_bo, cons_ex, cons_ok_ex, lbind_ok, lbind_ex, bind_ok, bind_ex, cond_b, kp_sh, kp_fr, kp_ex, tru_bl, tru_ex, tru_lst, tru_str, ofB_some', ofV_some, ofO_some, nox_ok, chnR_eq c_le_int, cmpR_eq c_le_int, cmpR_eq c_lt_int, cmpR_eq c_ge_int, cmpR_eq c_gt_int, cmpR_eq c_eq_int, cmpR_eq c_ne_int, cmpR_eq c_eq_str, cmpR_eq c_ne_str, cmpR_eq c_in_sgn, cmpR_eq c_nin_sgn, cmpR_eq c_is_non, cmpR_eq c_isnot_non, b_len_lst, b_len_tup, b_len_cdt, b_len_str, b_all, b_int_int, b_int_bl, b_int_str, b_str_int, b_str_str, b_isinst, b_list_lst, b_list_dct, b_tuple_lst, strK_str, m_sw, fk_sh, fk_fr, fk_ex, fl_ok, fl_ex, lfl_ok, lfl_ex, fc_b, fc_ex, seq_nx, seq_rt, seq_ex, seq_bk, seq_ct, ofFl_rt, ofFl_nx, ofFl_ex, turn_nx, turn_ct, turn_bk, turn_rt, turn_ex, it_lst, it_tup, it_str, it_rng1, it_rng2, it_enum, cmpR_eq c_ne_bl, cmpR_eq c_eq_bl, List.length_cons, List.length_nil, Nat.zero_add, Nat.reduceAdd, Nat.reduceLeDiff, BEq.rfl, clr, slots, Option.map, tgB, List.set_cons_zero, List.set_cons_succ, calR, toSl, Bool.false_eq_true, if_false, if_true, rtlR, frzL, frz1, List.foldl_cons, List.foldl_nil, owOf, ownK, lstK, appP, owS, raiR, tupR, lstR, Bool.not_true, Bool.not_false, nobF, ofF, ty_int0, ty_int1, ty_int2, ty_int3, ty_int4, is23_int, ty_str0, ty_str1, ty_str2, ty_str3, ty_str4, is23_str, ty_lst0, ty_lst1, ty_lst2, ty_lst3, ty_lst4, is23_lst, ty_tup0, ty_tup1, ty_tup2, ty_tup3, ty_tup4, is23_tup, ty_bl0, ty_bl1, ty_bl2, ty_bl3, ty_bl4, is23_bl, ty_non0, ty_non1, ty_non2, ty_non3, ty_non4, is23_non])).trans ?_
    rw [findIdx_range, List.length_map]
    try (cases (List.range ls.length).find? (atBad isNone' (ls.map wlOf)) <;> rfl)
  cases hf : (ls.map wlOf).findIdx? isNone' with
  | some i =>
    rw [hf] at hloop
    simp -implicitDefEqProofs only [execs.eq_2, hloop, seq_rt, ofFl_rt, rdPV]
  | none =>
    rw [hf] at hloop
    rw [stp hloop]
    unfold rdW2
    simp -implicitDefEqProofs only [List.length_map]
    by_cases h1 : 1 < ls.length
    · have c : decide ((1 : Int) < (ls.length : Int)) = true := decide_eq_true (by omega)
      rw [if_pos h1]
      simp -implicitDefEqProofs only [execs, exec, ev, evs, evC, evP, execM, List.getElem?_cons_zero, List.getElem?_cons_succ, sl_sh, sl_ow, sl_sht, sl_owt, fin_f, fin_t, cons_sh, cons_fr, cons_bo, cons_ex, cons_ok_ex, lbind_ok, lbind_ex, bind_ok, bind_ex, cond_b, kp_sh, kp_fr, kp_ex, tru_bl, tru_ex, tru_lst, tru_str, ofB_some', ofV_some, ofO_some, nox_ok, chnR_eq c_le_int, cmpR_eq c_le_int, cmpR_eq c_lt_int, cmpR_eq c_ge_int, cmpR_eq c_gt_int, cmpR_eq c_eq_int, cmpR_eq c_ne_int, cmpR_eq c_eq_str, cmpR_eq c_ne_str, cmpR_eq c_in_sgn, cmpR_eq c_nin_sgn, cmpR_eq c_is_non, cmpR_eq c_isnot_non, b_len_lst, b_len_tup, b_len_cdt, b_len_str, b_all, b_int_int, b_int_bl, b_int_str, b_str_int, b_str_str, b_isinst, b_list_lst, b_list_dct, b_tuple_lst, strK_str, m_sw, fk_sh, fk_fr, fk_ex, fl_ok, fl_ex, lfl_ok, lfl_ex, fc_b, fc_ex, seq_nx, seq_rt, seq_ex, seq_bk, seq_ct, ofFl_rt, ofFl_nx, ofFl_ex, turn_nx, turn_ct, turn_bk, turn_rt, turn_ex, it_lst, it_tup, it_str, it_rng1, it_rng2, it_enum, cmpR_eq c_ne_bl, cmpR_eq c_eq_bl, List.length_cons, List.length_nil, Nat.zero_add, Nat.reduceAdd, Nat.reduceLeDiff, BEq.rfl, clr, slots, Option.map, tgB, List.set_cons_zero, List.set_cons_succ, calR, toSl, Bool.false_eq_true, if_false, if_true, rtlR, frzL, frz1, List.foldl_cons, List.foldl_nil, owOf, ownK, lstK, appP, owS, raiR, tupR, lstR, Bool.not_true, Bool.not_false, nobF, ofF, ty_int0, ty_int1, ty_int2, ty_int3, ty_int4, is23_int, ty_str0, ty_str1, ty_str2, ty_str3, ty_str4, is23_str, ty_lst0, ty_lst1, ty_lst2, ty_lst3, ty_lst4, is23_lst, ty_tup0, ty_tup1, ty_tup2, ty_tup3, ty_tup4, is23_tup, ty_bl0, ty_bl1, ty_bl2, ty_bl3, ty_bl4, is23_bl, ty_non0, ty_non1, ty_non2, ty_non3, ty_non4, is23_non, List.length_map, c, rdPV, Int.natCast_one]
      try rfl
    · have c : decide ((1 : Int) < (ls.length : Int)) = false := decide_eq_false (by omega)
      rw [if_neg h1]
      rw [stp (env' := [.sh (.int w), .sh (.str s), .ow (.lst (ls.map PV.str)), .un, .un, .un, .un]) (by simp -implicitDefEqProofs only [execs, exec, ev, evs, evC, evP, execM, List.getElem?_cons_zero, List.getElem?_cons_succ, sl_sh, sl_ow, sl_sht, sl_owt, fin_f, fin_t, cons_sh, cons_fr, cons_bo, cons_ex, cons_ok_ex, lbind_ok, lbind_ex, bind_ok, bind_ex, cond_b, kp_sh, kp_fr, kp_ex, tru_bl, tru_ex, tru_lst, tru_str, ofB_some', ofV_some, ofO_some, nox_ok, chnR_eq c_le_int, cmpR_eq c_le_int, cmpR_eq c_lt_int, cmpR_eq c_ge_int, cmpR_eq c_gt_int, cmpR_eq c_eq_int, cmpR_eq c_ne_int, cmpR_eq c_eq_str, cmpR_eq c_ne_str, cmpR_eq c_in_sgn, cmpR_eq c_nin_sgn, cmpR_eq c_is_non, cmpR_eq c_isnot_non, b_len_lst, b_len_tup, b_len_cdt, b_len_str, b_all, b_int_int, b_int_bl, b_int_str, b_str_int, b_str_str, b_isinst, b_list_lst, b_list_dct, b_tuple_lst, strK_str, m_sw, fk_sh, fk_fr, fk_ex, fl_ok, fl_ex, lfl_ok, lfl_ex, fc_b, fc_ex, seq_nx, seq_rt, seq_ex, seq_bk, seq_ct, ofFl_rt, ofFl_nx, ofFl_ex, turn_nx, turn_ct, turn_bk, turn_rt, turn_ex, it_lst, it_tup, it_str, it_rng1, it_rng2, it_enum, cmpR_eq c_ne_bl, cmpR_eq c_eq_bl, List.length_cons, List.length_nil, Nat.zero_add, Nat.reduceAdd, Nat.reduceLeDiff, BEq.rfl, clr, slots, Option.map, tgB, List.set_cons_zero, List.set_cons_succ, calR, toSl, Bool.false_eq_true, if_false, if_true, rtlR, frzL, frz1, List.foldl_cons, List.foldl_nil, owOf, ownK, lstK, appP, owS, raiR, tupR, lstR, Bool.not_true, Bool.not_false, nobF, ofF, ty_int0, ty_int1, ty_int2, ty_int3, ty_int4, is23_int, ty_str0, ty_str1, ty_str2, ty_str3, ty_str4, is23_str, ty_lst0, ty_lst1, ty_lst2, ty_lst3, ty_lst4, is23_lst, ty_tup0, ty_tup1, ty_tup2, ty_tup3, ty_tup4, is23_tup, ty_bl0, ty_bl1, ty_bl2, ty_bl3, ty_bl4, is23_bl, ty_non0, ty_non1, ty_non2, ty_non3, ty_non4, is23_non, List.length_map, c])]
      match ls, h1, hne, hone, hf with
      | [l], _, _, hone, hf =>
        have e := hone l rfl
        subst e
        cases hw : wlOf l with
        | none =>
          rw [List.findIdx?_eq_none_iff] at hf
          have := hf (wlOf l) (by simp)
          rw [hw] at this
          cases this
        | some p =>
          rw [hw] at hlt
          have e2 : (List.map (fun l => (wlOf l).getD (0, [])) [l]).getD 0 (0, []) = p := by simp [hw]
          rw [e2]
          obtain ⟨m, r⟩ := p
          rw [stp (env' := [.sh (.int w), .sh (.str l), .ow (.lst ([l].map PV.str)), .un, .sh (.int (m : Int)), .sh (encL r), .un]) (by simp -implicitDefEqProofs only [execs, exec, ev, evs, evC, evP, execM, List.getElem?_cons_zero, List.getElem?_cons_succ, sl_sh, sl_ow, sl_sht, sl_owt, fin_f, fin_t, cons_sh, cons_fr, cons_bo, cons_ex, cons_ok_ex, lbind_ok, lbind_ex, bind_ok, bind_ex, cond_b, kp_sh, kp_fr, kp_ex, tru_bl, tru_ex, tru_lst, tru_str, ofB_some', ofV_some, ofO_some, nox_ok, chnR_eq c_le_int, cmpR_eq c_le_int, cmpR_eq c_lt_int, cmpR_eq c_ge_int, cmpR_eq c_gt_int, cmpR_eq c_eq_int, cmpR_eq c_ne_int, cmpR_eq c_eq_str, cmpR_eq c_ne_str, cmpR_eq c_in_sgn, cmpR_eq c_nin_sgn, cmpR_eq c_is_non, cmpR_eq c_isnot_non, b_len_lst, b_len_tup, b_len_cdt, b_len_str, b_all, b_int_int, b_int_bl, b_int_str, b_str_int, b_str_str, b_isinst, b_list_lst, b_list_dct, b_tuple_lst, strK_str, m_sw, fk_sh, fk_fr, fk_ex, fl_ok, fl_ex, lfl_ok, lfl_ex, fc_b, fc_ex, seq_nx, seq_rt, seq_ex, seq_bk, seq_ct, ofFl_rt, ofFl_nx, ofFl_ex, turn_nx, turn_ct, turn_bk, turn_rt, turn_ex, it_lst, it_tup, it_str, it_rng1, it_rng2, it_enum, cmpR_eq c_ne_bl, cmpR_eq c_eq_bl, List.length_cons, List.length_nil, Nat.zero_add, Nat.reduceAdd, Nat.reduceLeDiff, BEq.rfl, clr, slots, Option.map, tgB, List.set_cons_zero, List.set_cons_succ, calR, toSl, Bool.false_eq_true, if_false, if_true, rtlR, frzL, frz1, List.foldl_cons, List.foldl_nil, owOf, ownK, lstK, appP, owS, raiR, tupR, lstR, Bool.not_true, Bool.not_false, nobF, ofF, ty_int0, ty_int1, ty_int2, ty_int3, ty_int4, is23_int, ty_str0, ty_str1, ty_str2, ty_str3, ty_str4, is23_str, ty_lst0, ty_lst1, ty_lst2, ty_lst3, ty_lst4, is23_lst, ty_tup0, ty_tup1, ty_tup2, ty_tup3, ty_tup4, is23_tup, ty_bl0, ty_bl1, ty_bl2, ty_bl3, ty_bl4, is23_bl, ty_non0, ty_non1, ty_non2, ty_non3, ty_non4, is23_non, hlt, oW, wV, unpR, updL])]
          have c2 : decide ((2 : Int) ≤ (m : Int)) = decide (2 ≤ m) := decide_eq_decide.mpr (by omega)
          have c40 : decide ((m : Int) ≤ (40 : Int)) = decide (m ≤ 40) := decide_eq_decide.mpr (by omega)
          have c12 : decide ((12 : Int) < (r.length : Int)) = decide (12 < r.length) := decide_eq_decide.mpr (by omega)
          have c120 : decide ((120 : Int) < ((m * r.length : Nat) : Int)) = !decide (m * r.length ≤ 120) := by
            generalize m * r.length = z
            by_cases hz : z ≤ 120
            · rw [decide_eq_true hz]
              exact decide_eq_false (by omega)
            · rw [decide_eq_false hz]
              exact decide_eq_true (by omega)
          have hlen : bltP .len [encL r] = .ok .sh (.int (r.length : Int)) := by unfold encL; rw [b_len_lst, List.length_map]
          have hlc := lc_filter (X := ⟨callF P (d + 2), par, 4⟩) (env := [.sh (.int w), .sh (.str l), .ow (.lst ([l].map PV.str)), .un, .sh (.int (m : Int)), .sh (encL r), .un]) (tg := .v 6) (kk := .seq) (src := .cons (.loc 5) .nil) (c := .cmp .ge (.loc 6) (.loc 4)) (elt := .loc 6) (fun (x : Nat) => PV.int (x : Int)) (fun x => decide (m ≤ x)) r (nb := true) (vs := [encL r]) (by simp -implicitDefEqProofs only [execs, exec, ev, evs, evC, evP, execM, List.getElem?_cons_zero, List.getElem?_cons_succ, sl_sh, sl_ow, sl_sht, sl_owt, fin_f, fin_t, cons_sh, cons_fr, cons_bo, cons_ex, cons_ok_ex, lbind_ok, lbind_ex, bind_ok, bind_ex, cond_b, kp_sh, kp_fr, kp_ex, tru_bl, tru_ex, tru_lst, tru_str, ofB_some', ofV_some, ofO_some, nox_ok, chnR_eq c_le_int, cmpR_eq c_le_int, cmpR_eq c_lt_int, cmpR_eq c_ge_int, cmpR_eq c_gt_int, cmpR_eq c_eq_int, cmpR_eq c_ne_int, cmpR_eq c_eq_str, cmpR_eq c_ne_str, cmpR_eq c_in_sgn, cmpR_eq c_nin_sgn, cmpR_eq c_is_non, cmpR_eq c_isnot_non, b_len_lst, b_len_tup, b_len_cdt, b_len_str, b_all, b_int_int, b_int_bl, b_int_str, b_str_int, b_str_str, b_isinst, b_list_lst, b_list_dct, b_tuple_lst, strK_str, m_sw, fk_sh, fk_fr, fk_ex, fl_ok, fl_ex, lfl_ok, lfl_ex, fc_b, fc_ex, seq_nx, seq_rt, seq_ex, seq_bk, seq_ct, ofFl_rt, ofFl_nx, ofFl_ex, turn_nx, turn_ct, turn_bk, turn_rt, turn_ex, it_lst, it_tup, it_str, it_rng1, it_rng2, it_enum, cmpR_eq c_ne_bl, cmpR_eq c_eq_bl, List.length_cons, List.length_nil, Nat.zero_add, Nat.reduceAdd, Nat.reduceLeDiff, BEq.rfl, clr, slots, Option.map, tgB, List.set_cons_zero, List.set_cons_succ, calR, toSl, Bool.false_eq_true, if_false, if_true, rtlR, frzL, frz1, List.foldl_cons, List.foldl_nil, owOf, ownK, lstK, appP, owS, raiR, tupR, lstR, Bool.not_true, Bool.not_false, nobF, ofF, ty_int0, ty_int1, ty_int2, ty_int3, ty_int4, is23_int, ty_str0, ty_str1, ty_str2, ty_str3, ty_str4, is23_str, ty_lst0, ty_lst1, ty_lst2, ty_lst3, ty_lst4, is23_lst, ty_tup0, ty_tup1, ty_tup2, ty_tup3, ty_tup4, is23_tup, ty_bl0, ty_bl1, ty_bl2, ty_bl3, ty_bl4, is23_bl, ty_non0, ty_non1, ty_non2, ty_non3, ty_non4, is23_non]) it_lst (fun x hx => ⟨[.sh (.int w), .sh (.str l), .ow (.lst ([l].map PV.str)), .un, .sh (.int (m : Int)), .sh (encL r), .sh (.int (x : Int))], rfl, by
            simp -implicitDefEqProofs only [execs, exec, ev, evs, evC, evP, execM, List.getElem?_cons_zero, List.getElem?_cons_succ, sl_sh, sl_ow, sl_sht, sl_owt, fin_f, fin_t, cons_sh, cons_fr, cons_bo, cons_ex, cons_ok_ex, lbind_ok, lbind_ex, bind_ok, bind_ex, cond_b, kp_sh, kp_fr, kp_ex, tru_bl, tru_ex, tru_lst, tru_str, ofB_some', ofV_some, ofO_some, nox_ok, chnR_eq c_le_int, cmpR_eq c_le_int, cmpR_eq c_lt_int, cmpR_eq c_ge_int, cmpR_eq c_gt_int, cmpR_eq c_eq_int, cmpR_eq c_ne_int, cmpR_eq c_eq_str, cmpR_eq c_ne_str, cmpR_eq c_in_sgn, cmpR_eq c_nin_sgn, cmpR_eq c_is_non, cmpR_eq c_isnot_non, b_len_lst, b_len_tup, b_len_cdt, b_len_str, b_all, b_int_int, b_int_bl, b_int_str, b_str_int, b_str_str, b_isinst, b_list_lst, b_list_dct, b_tuple_lst, strK_str, m_sw, fk_sh, fk_fr, fk_ex, fl_ok, fl_ex, lfl_ok, lfl_ex, fc_b, fc_ex, seq_nx, seq_rt, seq_ex, seq_bk, seq_ct, ofFl_rt, ofFl_nx, ofFl_ex, turn_nx, turn_ct, turn_bk, turn_rt, turn_ex, it_lst, it_tup, it_str, it_rng1, it_rng2, it_enum, cmpR_eq c_ne_bl, cmpR_eq c_eq_bl, List.length_cons, List.length_nil, Nat.zero_add, Nat.reduceAdd, Nat.reduceLeDiff, BEq.rfl, clr, slots, Option.map, tgB, List.set_cons_zero, List.set_cons_succ, calR, toSl, Bool.false_eq_true, if_false, if_true, rtlR, frzL, frz1, List.foldl_cons, List.foldl_nil, owOf, ownK, lstK, appP, owS, raiR, tupR, lstR, Bool.not_true, Bool.not_false, nobF, ofF, ty_int0, ty_int1, ty_int2, ty_int3, ty_int4, is23_int, ty_str0, ty_str1, ty_str2, ty_str3, ty_str4, is23_str, ty_lst0, ty_lst1, ty_lst2, ty_lst3, ty_lst4, is23_lst, ty_tup0, ty_tup1, ty_tup2, ty_tup3, ty_tup4, is23_tup, ty_bl0, ty_bl1, ty_bl2, ty_bl3, ty_bl4, is23_bl, ty_non0, ty_non1, ty_non2, ty_non3, ty_non4, is23_non]
            congr 2
            exact decide_eq_decide.mpr Int.ofNat_le, by simp -implicitDefEqProofs only [execs, exec, ev, evs, evC, evP, execM, List.getElem?_cons_zero, List.getElem?_cons_succ, sl_sh, sl_ow, sl_sht, sl_owt, fin_f, fin_t, cons_sh, cons_fr, cons_bo, cons_ex, cons_ok_ex, lbind_ok, lbind_ex, bind_ok, bind_ex, cond_b, kp_sh, kp_fr, kp_ex, tru_bl, tru_ex, tru_lst, tru_str, ofB_some', ofV_some, ofO_some, nox_ok, chnR_eq c_le_int, cmpR_eq c_le_int, cmpR_eq c_lt_int, cmpR_eq c_ge_int, cmpR_eq c_gt_int, cmpR_eq c_eq_int, cmpR_eq c_ne_int, cmpR_eq c_eq_str, cmpR_eq c_ne_str, cmpR_eq c_in_sgn, cmpR_eq c_nin_sgn, cmpR_eq c_is_non, cmpR_eq c_isnot_non, b_len_lst, b_len_tup, b_len_cdt, b_len_str, b_all, b_int_int, b_int_bl, b_int_str, b_str_int, b_str_str, b_isinst, b_list_lst, b_list_dct, b_tuple_lst, strK_str, m_sw, fk_sh, fk_fr, fk_ex, fl_ok, fl_ex, lfl_ok, lfl_ex, fc_b, fc_ex, seq_nx, seq_rt, seq_ex, seq_bk, seq_ct, ofFl_rt, ofFl_nx, ofFl_ex, turn_nx, turn_ct, turn_bk, turn_rt, turn_ex, it_lst, it_tup, it_str, it_rng1, it_rng2, it_enum, cmpR_eq c_ne_bl, cmpR_eq c_eq_bl, List.length_cons, List.length_nil, Nat.zero_add, Nat.reduceAdd, Nat.reduceLeDiff, BEq.rfl, clr, slots, Option.map, tgB, List.set_cons_zero, List.set_cons_succ, calR, toSl, Bool.false_eq_true, if_false, if_true, rtlR, frzL, frz1, List.foldl_cons, List.foldl_nil, owOf, ownK, lstK, appP, owS, raiR, tupR, lstR, Bool.not_true, Bool.not_false, nobF, ofF, ty_int0, ty_int1, ty_int2, ty_int3, ty_int4, is23_int, ty_str0, ty_str1, ty_str2, ty_str3, ty_str4, is23_str, ty_lst0, ty_lst1, ty_lst2, ty_lst3, ty_lst4, is23_lst, ty_tup0, ty_tup1, ty_tup2, ty_tup3, ty_tup4, is23_tup, ty_bl0, ty_bl1, ty_bl2, ty_bl3, ty_bl4, is23_bl, ty_non0, ty_non1, ty_non2, ty_non3, ty_non4, is23_non]⟩)
          have hfe := ne_nil_row (r.filter fun x => decide (m ≤ x))
          rw [filt_all] at hfe
          unfold encL at hfe
          unfold rdW3 areW
          simp only
          generalize IR.lc (.v 6) .seq (.cons (.loc 5) .nil) (.cons (.cmp .ge (.loc 6) (.loc 4)) .nil) (.loc 6) = lc at hlc
          generalize (r.filter fun x => decide (m ≤ x)).map (fun (x : Nat) => PV.int (x : Int)) = Fl at hfe hlc
          generalize hQ : (r.all fun x => decide (x < m)) = q at hfe
          by_cases hB : m ≤ 40
          · have e1 : binP .mul (.int (m : Int)) (.int (r.length : Int)) = .ok .sh (.int ((m * r.length : Nat) : Int)) := (mulLx (by unfold small; simp -implicitDefEqProofs only [Bool.and_eq_true, decide_eq_true_eq]; omega)).trans (int_congr (by simp))
            have hB' : decide (m ≤ 40) = true := decide_eq_true hB
            rw [hB'] at c40 ⊢
            generalize decide (2 ≤ m) = A at c2
            generalize decide (12 < r.length) = C at c12
            generalize decide (m * r.length ≤ 120) = D at c120
            cases A <;> cases C <;> cases q <;> cases D <;> simp -implicitDefEqProofs only [execs, exec, ev, evs, evC, evP, execM, List.getElem?_cons_zero, List.getElem?_cons_succ, sl_sh, sl_ow, sl_sht, sl_owt, fin_f, fin_t, cons_sh, cons_fr, cons_bo, cons_ex, cons_ok_ex, lbind_ok, lbind_ex, bind_ok, bind_ex, cond_b, kp_sh, kp_fr, kp_ex, tru_bl, tru_ex, tru_lst, tru_str, ofB_some', ofV_some, ofO_some, nox_ok, chnR_eq c_le_int, cmpR_eq c_le_int, cmpR_eq c_lt_int, cmpR_eq c_ge_int, cmpR_eq c_gt_int, cmpR_eq c_eq_int, cmpR_eq c_ne_int, cmpR_eq c_eq_str, cmpR_eq c_ne_str, cmpR_eq c_in_sgn, cmpR_eq c_nin_sgn, cmpR_eq c_is_non, cmpR_eq c_isnot_non, b_len_lst, b_len_tup, b_len_cdt, b_len_str, b_all, b_int_int, b_int_bl, b_int_str, b_str_int, b_str_str, b_isinst, b_list_lst, b_list_dct, b_tuple_lst, strK_str, m_sw, fk_sh, fk_fr, fk_ex, fl_ok, fl_ex, lfl_ok, lfl_ex, fc_b, fc_ex, seq_nx, seq_rt, seq_ex, seq_bk, seq_ct, ofFl_rt, ofFl_nx, ofFl_ex, turn_nx, turn_ct, turn_bk, turn_rt, turn_ex, it_lst, it_tup, it_str, it_rng1, it_rng2, it_enum, cmpR_eq c_ne_bl, cmpR_eq c_eq_bl, List.length_cons, List.length_nil, Nat.zero_add, Nat.reduceAdd, Nat.reduceLeDiff, BEq.rfl, clr, slots, Option.map, tgB, List.set_cons_zero, List.set_cons_succ, calR, toSl, Bool.false_eq_true, if_false, if_true, rtlR, frzL, frz1, List.foldl_cons, List.foldl_nil, owOf, ownK, lstK, appP, owS, raiR, tupR, lstR, Bool.not_true, Bool.not_false, nobF, ofF, ty_int0, ty_int1, ty_int2, ty_int3, ty_int4, is23_int, ty_str0, ty_str1, ty_str2, ty_str3, ty_str4, is23_str, ty_lst0, ty_lst1, ty_lst2, ty_lst3, ty_lst4, is23_lst, ty_tup0, ty_tup1, ty_tup2, ty_tup3, ty_tup4, is23_tup, ty_bl0, ty_bl1, ty_bl2, ty_bl3, ty_bl4, is23_bl, ty_non0, ty_non1, ty_non2, ty_non3, ty_non4, is23_non, hlen, c2, c40, c12, hlc, cmpR_eq hfe, e1, c120, rdPV, wV, Bool.and_true, Bool.and_false, Bool.true_and, Bool.false_and, Bool.or_true, Bool.or_false, Bool.true_or, Bool.false_or] <;> try rfl
          · have hB' : decide (m ≤ 40) = false := decide_eq_false hB
            rw [hB'] at c40 ⊢
            generalize decide (2 ≤ m) = A at c2
            cases A <;> simp -implicitDefEqProofs only [execs, exec, ev, evs, evC, evP, execM, List.getElem?_cons_zero, List.getElem?_cons_succ, sl_sh, sl_ow, sl_sht, sl_owt, fin_f, fin_t, cons_sh, cons_fr, cons_bo, cons_ex, cons_ok_ex, lbind_ok, lbind_ex, bind_ok, bind_ex, cond_b, kp_sh, kp_fr, kp_ex, tru_bl, tru_ex, tru_lst, tru_str, ofB_some', ofV_some, ofO_some, nox_ok, chnR_eq c_le_int, cmpR_eq c_le_int, cmpR_eq c_lt_int, cmpR_eq c_ge_int, cmpR_eq c_gt_int, cmpR_eq c_eq_int, cmpR_eq c_ne_int, cmpR_eq c_eq_str, cmpR_eq c_ne_str, cmpR_eq c_in_sgn, cmpR_eq c_nin_sgn, cmpR_eq c_is_non, cmpR_eq c_isnot_non, b_len_lst, b_len_tup, b_len_cdt, b_len_str, b_all, b_int_int, b_int_bl, b_int_str, b_str_int, b_str_str, b_isinst, b_list_lst, b_list_dct, b_tuple_lst, strK_str, m_sw, fk_sh, fk_fr, fk_ex, fl_ok, fl_ex, lfl_ok, lfl_ex, fc_b, fc_ex, seq_nx, seq_rt, seq_ex, seq_bk, seq_ct, ofFl_rt, ofFl_nx, ofFl_ex, turn_nx, turn_ct, turn_bk, turn_rt, turn_ex, it_lst, it_tup, it_str, it_rng1, it_rng2, it_enum, cmpR_eq c_ne_bl, cmpR_eq c_eq_bl, List.length_cons, List.length_nil, Nat.zero_add, Nat.reduceAdd, Nat.reduceLeDiff, BEq.rfl, clr, slots, Option.map, tgB, List.set_cons_zero, List.set_cons_succ, calR, toSl, Bool.false_eq_true, if_false, if_true, rtlR, frzL, frz1, List.foldl_cons, List.foldl_nil, owOf, ownK, lstK, appP, owS, raiR, tupR, lstR, Bool.not_true, Bool.not_false, nobF, ofF, ty_int0, ty_int1, ty_int2, ty_int3, ty_int4, is23_int, ty_str0, ty_str1, ty_str2, ty_str3, ty_str4, is23_str, ty_lst0, ty_lst1, ty_lst2, ty_lst3, ty_lst4, is23_lst, ty_tup0, ty_tup1, ty_tup2, ty_tup3, ty_tup4, is23_tup, ty_bl0, ty_bl1, ty_bl2, ty_bl3, ty_bl4, is23_bl, ty_non0, ty_non1, ty_non2, ty_non3, ty_non4, is23_non, hlen, c2, c40, c12, hlc, cmpR_eq hfe, c120, rdPV, wV, Bool.and_true, Bool.and_false, Bool.true_and, Bool.false_and, Bool.or_true, Bool.or_false, Bool.true_or, Bool.false_or] <;> try rfl
      | l :: l' :: r, h1, _, _, _ => exact absurd (by simp) h1
end Wk81
set_option Elab.async false
set_option linter.all false
set_option maxRecDepth 100000
set_option maxHeartbeats 2000000
namespace Wk81
open EV
theorem ok_n {k : Nat} (h : k < 10 ^ 19) : (It.n k).ok := by
  unfold It.ok
  exact h
theorem ok_s {t : List Nat} (h : t.length ≤ 100) : (It.s t).ok := by
  unfold It.ok
  exact h
theorem str_n {k : Nat} (h : k < 10 ^ 19) : bltP .str [.int (k : Int)] = .ok .sh (.str (numD k)) := It.str (i := .n k) (ok_n h)
theorem same_row (d : Nat) (r : List Nat) (hl : r.length ≤ 8000000) : callF P (d + 3) 18 [encL r, encL r] = .ok .sh (.bl true) :=
  sameL (d + 1) (r.map fun (n : Nat) => .int (n : Int)) (by simpa using hl) false (fun x hx => by
    obtain ⟨n, _, rfl⟩ := List.mem_map.mp hx
    exact same1 d _ rfl)
theorem same_w (d : Nat) (p : Nat × List Nat) (hl : p.2.length ≤ 8000000) : callF P (d + 4) 18 [wV p, wV p] = .ok .sh (.bl true) :=
  sameL (d + 2) [.int (p.1 : Int), encL p.2] (by simp) true (fun x hx => by
    simp -implicitDefEqProofs only [List.mem_cons, List.not_mem_nil, or_false] at hx
    rcases hx with rfl | rfl
    · exact same1 (d + 1) _ rfl
    · exact same_row d p.2 hl)
theorem rdW_yes (s : List Nat) (p : Nat × List Nat) (h : rdW s = .yes p) : p.2.length ≤ 12 := by
  unfold rdW rdW1 at h
  split at h
  · cases h
  · unfold rdW2 at h
    split at h
    · cases h
    · generalize (List.map (fun l => (wlOf l).getD (0, [])) (splitOn 10 s)).getD 0 (0, []) = p' at h
      unfold rdW3 at h
      split at h
      · rename_i ha
        cases h
        unfold areW at ha
        split at ha
        · cases ha
        · rename_i hx
          simp at hx
          omega
      · cases h
theorem f23 (d : Nat) (w : Int) (s : List Nat) (hs : s.length ≤ 7000000) : callF P (d + 12) 23 [.int w, .str s] = .ok .sh (.bl true) := by
  rw [e23]
  have h30 := f21 (d + 8) w s hs
  have h31 := f22 (d + 2) w s hs
  cases hr : rdW s with
  | yes v =>
    rw [hr] at h30 h31
    have h24 := same_w (d + 7) v (by have := rdW_yes s v hr; omega)
    simp -implicitDefEqProofs only [b23, execs, exec, ev, evs, evC, evP, execM, List.getElem?_cons_zero, List.getElem?_cons_succ, sl_sh, sl_ow, sl_sht, sl_owt, fin_f, fin_t, cons_sh, cons_fr, cons_bo, cons_ex, cons_ok_ex, lbind_ok, lbind_ex, bind_ok, bind_ex, cond_b, kp_sh, kp_fr, kp_ex, tru_bl, tru_ex, tru_lst, tru_str, ofB_some', ofV_some, ofO_some, nox_ok, chnR_eq c_le_int, cmpR_eq c_le_int, cmpR_eq c_lt_int, cmpR_eq c_ge_int, cmpR_eq c_gt_int, cmpR_eq c_eq_int, cmpR_eq c_ne_int, cmpR_eq c_eq_str, cmpR_eq c_ne_str, cmpR_eq c_in_sgn, cmpR_eq c_nin_sgn, cmpR_eq c_is_non, cmpR_eq c_isnot_non, b_len_lst, b_len_tup, b_len_cdt, b_len_str, b_all, b_int_int, b_int_bl, b_int_str, b_str_int, b_str_str, b_isinst, b_list_lst, b_list_dct, b_tuple_lst, strK_str, m_sw, fk_sh, fk_fr, fk_ex, fl_ok, fl_ex, lfl_ok, lfl_ex, fc_b, fc_ex, seq_nx, seq_rt, seq_ex, seq_bk, seq_ct, ofFl_rt, ofFl_nx, ofFl_ex, turn_nx, turn_ct, turn_bk, turn_rt, turn_ex, it_lst, it_tup, it_str, it_rng1, it_rng2, it_enum, cmpR_eq c_ne_bl, cmpR_eq c_eq_bl, List.length_cons, List.length_nil, Nat.zero_add, Nat.reduceAdd, Nat.reduceLeDiff, BEq.rfl, clr, slots, Option.map, tgB, List.set_cons_zero, List.set_cons_succ, calR, toSl, Bool.false_eq_true, if_false, if_true, rtlR, frzL, frz1, List.foldl_cons, List.foldl_nil, owOf, ownK, lstK, appP, owS, raiR, tupR, lstR, Bool.not_true, Bool.not_false, nobF, ofF, ty_int0, ty_int1, ty_int2, ty_int3, ty_int4, is23_int, ty_str0, ty_str1, ty_str2, ty_str3, ty_str4, is23_str, ty_lst0, ty_lst1, ty_lst2, ty_lst3, ty_lst4, is23_lst, ty_tup0, ty_tup1, ty_tup2, ty_tup3, ty_tup4, is23_tup, ty_bl0, ty_bl1, ty_bl2, ty_bl3, ty_bl4, is23_bl, ty_non0, ty_non1, ty_non2, ty_non3, ty_non4, is23_non, h30, h31, rdPV, sub_tup, atP_0, atP_1, h24]
  | no i =>
    rw [hr] at h30 h31
    have h24 := same1 (d + 9) (.int i) rfl
    simp -implicitDefEqProofs only [b23, execs, exec, ev, evs, evC, evP, execM, List.getElem?_cons_zero, List.getElem?_cons_succ, sl_sh, sl_ow, sl_sht, sl_owt, fin_f, fin_t, cons_sh, cons_fr, cons_bo, cons_ex, cons_ok_ex, lbind_ok, lbind_ex, bind_ok, bind_ex, cond_b, kp_sh, kp_fr, kp_ex, tru_bl, tru_ex, tru_lst, tru_str, ofB_some', ofV_some, ofO_some, nox_ok, chnR_eq c_le_int, cmpR_eq c_le_int, cmpR_eq c_lt_int, cmpR_eq c_ge_int, cmpR_eq c_gt_int, cmpR_eq c_eq_int, cmpR_eq c_ne_int, cmpR_eq c_eq_str, cmpR_eq c_ne_str, cmpR_eq c_in_sgn, cmpR_eq c_nin_sgn, cmpR_eq c_is_non, cmpR_eq c_isnot_non, b_len_lst, b_len_tup, b_len_cdt, b_len_str, b_all, b_int_int, b_int_bl, b_int_str, b_str_int, b_str_str, b_isinst, b_list_lst, b_list_dct, b_tuple_lst, strK_str, m_sw, fk_sh, fk_fr, fk_ex, fl_ok, fl_ex, lfl_ok, lfl_ex, fc_b, fc_ex, seq_nx, seq_rt, seq_ex, seq_bk, seq_ct, ofFl_rt, ofFl_nx, ofFl_ex, turn_nx, turn_ct, turn_bk, turn_rt, turn_ex, it_lst, it_tup, it_str, it_rng1, it_rng2, it_enum, cmpR_eq c_ne_bl, cmpR_eq c_eq_bl, List.length_cons, List.length_nil, Nat.zero_add, Nat.reduceAdd, Nat.reduceLeDiff, BEq.rfl, clr, slots, Option.map, tgB, List.set_cons_zero, List.set_cons_succ, calR, toSl, Bool.false_eq_true, if_false, if_true, rtlR, frzL, frz1, List.foldl_cons, List.foldl_nil, owOf, ownK, lstK, appP, owS, raiR, tupR, lstR, Bool.not_true, Bool.not_false, nobF, ofF, ty_int0, ty_int1, ty_int2, ty_int3, ty_int4, is23_int, ty_str0, ty_str1, ty_str2, ty_str3, ty_str4, is23_str, ty_lst0, ty_lst1, ty_lst2, ty_lst3, ty_lst4, is23_lst, ty_tup0, ty_tup1, ty_tup2, ty_tup3, ty_tup4, is23_tup, ty_bl0, ty_bl1, ty_bl2, ty_bl3, ty_bl4, is23_bl, ty_non0, ty_non1, ty_non2, ty_non3, ty_non4, is23_non, h30, h31, rdPV, sub_tup, atP_0, atP_1, h24]
/-- the text of the weights -/
def tW (p : Nat × List Nat) : List Nat := joinS [32] (numD p.1 :: [58] :: p.2.map numD)
def goodW (p : Nat × List Nat) : Prop := p.1 < 10 ^ 19 ∧ p.2.length ≤ 160 ∧ ∀ n ∈ p.2, n < 10 ^ 19
theorem goodW.o {m : Nat} {r : List Nat} (h : goodW (m, r)) : m < 10 ^ 19 ∧ r.length ≤ 160 ∧ ∀ n ∈ r, n < 10 ^ 19 := by
  unfold goodW at h
  exact h
theorem lw_w (p : Nat × List Nat) (hg : goodW p) : lw (numD p.1 :: [58] :: p.2.map numD) ≤ 3240 := by
  obtain ⟨h1, h2, h3⟩ := hg
  have h := lw_all (numD p.1 :: [58] :: p.2.map numD) 19 (fun y hy => by
    simp -implicitDefEqProofs only [List.mem_cons] at hy
    rcases hy with rfl | rfl | hy
    · exact len_num 19 p.1 (by decide) h1
    · decide
    · obtain ⟨n, hn, rfl⟩ := List.mem_map.mp hy
      exact len_num 19 n (by decide) (h3 n hn))
  simp -implicitDefEqProofs only [List.length_cons, List.length_map] at h
  omega
theorem tW_len (p : Nat × List Nat) (hg : goodW p) : (tW p).length ≤ 3240 := Nat.le_trans (joinS_len _ _) (lw_w p hg)
theorem ev_join {X : EC} {env : Env} {a : IR} {c : Nat} {ys : List (List Nat)} (h : ev X false a env = .ok .fr (.lst (ys.map .str))) (hl : lw ys ≤ SL) : ev X false (.mth .join (.cst (.str [c])) (.cons a .nil)) env = .ok .sh (.str (joinS [c] ys)) := by
  simp -implicitDefEqProofs only [execs, exec, ev, evs, evC, evP, execM, List.getElem?_cons_zero, List.getElem?_cons_succ, sl_sh, sl_ow, sl_sht, sl_owt, fin_f, fin_t, cons_sh, cons_fr, cons_bo, cons_ex, cons_ok_ex, lbind_ok, lbind_ex, bind_ok, bind_ex, cond_b, kp_sh, kp_fr, kp_ex, tru_bl, tru_ex, tru_lst, tru_str, ofB_some', ofV_some, ofO_some, nox_ok, chnR_eq c_le_int, cmpR_eq c_le_int, cmpR_eq c_lt_int, cmpR_eq c_ge_int, cmpR_eq c_gt_int, cmpR_eq c_eq_int, cmpR_eq c_ne_int, cmpR_eq c_eq_str, cmpR_eq c_ne_str, cmpR_eq c_in_sgn, cmpR_eq c_nin_sgn, cmpR_eq c_is_non, cmpR_eq c_isnot_non, b_len_lst, b_len_tup, b_len_cdt, b_len_str, b_all, b_int_int, b_int_bl, b_int_str, b_str_int, b_str_str, b_isinst, b_list_lst, b_list_dct, b_tuple_lst, strK_str, m_sw, fk_sh, fk_fr, fk_ex, fl_ok, fl_ex, lfl_ok, lfl_ex, fc_b, fc_ex, seq_nx, seq_rt, seq_ex, seq_bk, seq_ct, ofFl_rt, ofFl_nx, ofFl_ex, turn_nx, turn_ct, turn_bk, turn_rt, turn_ex, it_lst, it_tup, it_str, it_rng1, it_rng2, it_enum, cmpR_eq c_ne_bl, cmpR_eq c_eq_bl, List.length_cons, List.length_nil, Nat.zero_add, Nat.reduceAdd, Nat.reduceLeDiff, BEq.rfl, clr, slots, Option.map, tgB, List.set_cons_zero, List.set_cons_succ, calR, toSl, Bool.false_eq_true, if_false, if_true, rtlR, frzL, frz1, List.foldl_cons, List.foldl_nil, owOf, ownK, lstK, appP, owS, raiR, tupR, lstR, Bool.not_true, Bool.not_false, nobF, ofF, ty_int0, ty_int1, ty_int2, ty_int3, ty_int4, is23_int, ty_str0, ty_str1, ty_str2, ty_str3, ty_str4, is23_str, ty_lst0, ty_lst1, ty_lst2, ty_lst3, ty_lst4, is23_lst, ty_tup0, ty_tup1, ty_tup2, ty_tup3, ty_tup4, is23_tup, ty_bl0, ty_bl1, ty_bl2, ty_bl3, ty_bl4, is23_bl, ty_non0, ty_non1, ty_non2, ty_non3, ty_non4, is23_non, h, m_join c _ hl]
theorem f25 (d : Nat) (p : Nat × List Nat) (hg : goodW p) : callF P (d + 1) 25 [wV p] = .ok .sh (.str (tW p)) := by
  rw [e25]
  have hSL : (SL : Nat) = 16000000 := rfl
  have hLL : (LL : Nat) = 16777216 := rfl
  obtain ⟨m, r⟩ := p
  have hlw := lw_w (m, r) hg
  obtain ⟨h1, h2, h3⟩ := hg.o
  have s1 : bltP .str [.int (m : Int)] = .ok .sh (.str (numD m)) := str_n h1
  have hlc := lc_map (X := ⟨callF P d, par, 4⟩) (env := [.sh (wV (m, r)), .un]) (tg := .v 1) (kk := .seq) (src := .cons (.sub (.loc 0) (.cst (.int 1))) .nil) (elt := .blt .str (.cons (.loc 1) .nil)) (fun (n : Nat) => PV.int (n : Int)) (fun n => .str (numD n)) r (nb := true) (vs := [encL r]) (by simp -implicitDefEqProofs only [execs, exec, ev, evs, evC, evP, execM, List.getElem?_cons_zero, List.getElem?_cons_succ, sl_sh, sl_ow, sl_sht, sl_owt, fin_f, fin_t, cons_sh, cons_fr, cons_bo, cons_ex, cons_ok_ex, lbind_ok, lbind_ex, bind_ok, bind_ex, cond_b, kp_sh, kp_fr, kp_ex, tru_bl, tru_ex, tru_lst, tru_str, ofB_some', ofV_some, ofO_some, nox_ok, chnR_eq c_le_int, cmpR_eq c_le_int, cmpR_eq c_lt_int, cmpR_eq c_ge_int, cmpR_eq c_gt_int, cmpR_eq c_eq_int, cmpR_eq c_ne_int, cmpR_eq c_eq_str, cmpR_eq c_ne_str, cmpR_eq c_in_sgn, cmpR_eq c_nin_sgn, cmpR_eq c_is_non, cmpR_eq c_isnot_non, b_len_lst, b_len_tup, b_len_cdt, b_len_str, b_all, b_int_int, b_int_bl, b_int_str, b_str_int, b_str_str, b_isinst, b_list_lst, b_list_dct, b_tuple_lst, strK_str, m_sw, fk_sh, fk_fr, fk_ex, fl_ok, fl_ex, lfl_ok, lfl_ex, fc_b, fc_ex, seq_nx, seq_rt, seq_ex, seq_bk, seq_ct, ofFl_rt, ofFl_nx, ofFl_ex, turn_nx, turn_ct, turn_bk, turn_rt, turn_ex, it_lst, it_tup, it_str, it_rng1, it_rng2, it_enum, cmpR_eq c_ne_bl, cmpR_eq c_eq_bl, List.length_cons, List.length_nil, Nat.zero_add, Nat.reduceAdd, Nat.reduceLeDiff, BEq.rfl, clr, slots, Option.map, tgB, List.set_cons_zero, List.set_cons_succ, calR, toSl, Bool.false_eq_true, if_false, if_true, rtlR, frzL, frz1, List.foldl_cons, List.foldl_nil, owOf, ownK, lstK, appP, owS, raiR, tupR, lstR, Bool.not_true, Bool.not_false, nobF, ofF, ty_int0, ty_int1, ty_int2, ty_int3, ty_int4, is23_int, ty_str0, ty_str1, ty_str2, ty_str3, ty_str4, is23_str, ty_lst0, ty_lst1, ty_lst2, ty_lst3, ty_lst4, is23_lst, ty_tup0, ty_tup1, ty_tup2, ty_tup3, ty_tup4, is23_tup, ty_bl0, ty_bl1, ty_bl2, ty_bl3, ty_bl4, is23_bl, ty_non0, ty_non1, ty_non2, ty_non3, ty_non4, is23_non, wV, sub_tup, atP_1]) (by rfl) (fun n hn => ⟨[.sh (wV (m, r)), .sh (.int (n : Int))], rfl, .inl (by
    have s2 : bltP .str [.int (n : Int)] = .ok .sh (.str (numD n)) := str_n (h3 n hn)
    simp -implicitDefEqProofs only [execs, exec, ev, evs, evC, evP, execM, List.getElem?_cons_zero, List.getElem?_cons_succ, sl_sh, sl_ow, sl_sht, sl_owt, fin_f, fin_t, cons_sh, cons_fr, cons_bo, cons_ex, cons_ok_ex, lbind_ok, lbind_ex, bind_ok, bind_ex, cond_b, kp_sh, kp_fr, kp_ex, tru_bl, tru_ex, tru_lst, tru_str, ofB_some', ofV_some, ofO_some, nox_ok, chnR_eq c_le_int, cmpR_eq c_le_int, cmpR_eq c_lt_int, cmpR_eq c_ge_int, cmpR_eq c_gt_int, cmpR_eq c_eq_int, cmpR_eq c_ne_int, cmpR_eq c_eq_str, cmpR_eq c_ne_str, cmpR_eq c_in_sgn, cmpR_eq c_nin_sgn, cmpR_eq c_is_non, cmpR_eq c_isnot_non, b_len_lst, b_len_tup, b_len_cdt, b_len_str, b_all, b_int_int, b_int_bl, b_int_str, b_str_int, b_str_str, b_isinst, b_list_lst, b_list_dct, b_tuple_lst, strK_str, m_sw, fk_sh, fk_fr, fk_ex, fl_ok, fl_ex, lfl_ok, lfl_ex, fc_b, fc_ex, seq_nx, seq_rt, seq_ex, seq_bk, seq_ct, ofFl_rt, ofFl_nx, ofFl_ex, turn_nx, turn_ct, turn_bk, turn_rt, turn_ex, it_lst, it_tup, it_str, it_rng1, it_rng2, it_enum, cmpR_eq c_ne_bl, cmpR_eq c_eq_bl, List.length_cons, List.length_nil, Nat.zero_add, Nat.reduceAdd, Nat.reduceLeDiff, BEq.rfl, clr, slots, Option.map, tgB, List.set_cons_zero, List.set_cons_succ, calR, toSl, Bool.false_eq_true, if_false, if_true, rtlR, frzL, frz1, List.foldl_cons, List.foldl_nil, owOf, ownK, lstK, appP, owS, raiR, tupR, lstR, Bool.not_true, Bool.not_false, nobF, ofF, ty_int0, ty_int1, ty_int2, ty_int3, ty_int4, is23_int, ty_str0, ty_str1, ty_str2, ty_str3, ty_str4, is23_str, ty_lst0, ty_lst1, ty_lst2, ty_lst3, ty_lst4, is23_lst, ty_tup0, ty_tup1, ty_tup2, ty_tup3, ty_tup4, is23_tup, ty_bl0, ty_bl1, ty_bl2, ty_bl3, ty_bl4, is23_bl, ty_non0, ty_non1, ty_non2, ty_non3, ty_non4, is23_non, s2])⟩)
  have e : (r.map fun n => PV.str (numD n)) = (r.map numD).map .str := by rw [List.map_map]; rfl
  rw [e] at hlc
  have hadd : binP .add (.lst [.str (numD m), .str [58]]) (.lst ((r.map numD).map .str)) = .ok .fr (.lst ((numD m :: [58] :: r.map numD).map .str)) := addL (a := [.str (numD m), .str [58]]) (b := (r.map numD).map .str) (by simp -implicitDefEqProofs only [List.length_cons, List.length_nil, List.length_map]; omega)
  unfold b25
  have hall : ev ⟨callF P d, par, 4⟩ false (.bin .add (.lst (.cons (.blt .str (.cons (.sub (.loc 0) (.cst (.int 0))) .nil)) (.cons (.cst (.str [58])) .nil))) (.lc (.v 1) .seq (.cons (.sub (.loc 0) (.cst (.int 1))) .nil) .nil (.blt .str (.cons (.loc 1) .nil)))) [.sh (wV (m, r)), .un] = .ok .fr (.lst ((numD m :: [58] :: r.map numD).map .str)) := by
    generalize IR.lc (.v 1) .seq (.cons (.sub (.loc 0) (.cst (.int 1))) .nil) .nil (.blt .str (.cons (.loc 1) .nil)) = lc at hlc
    have hs0 : subP (wV (m, r)) (.int 0) = some (.int (m : Int)) := atP_0 _ _
    generalize wV (m, r) = W at hlc hs0
    simp -implicitDefEqProofs only [execs, exec, ev, evs, evC, evP, execM, List.getElem?_cons_zero, List.getElem?_cons_succ, sl_sh, sl_ow, sl_sht, sl_owt, fin_f, fin_t, cons_sh, cons_fr, cons_bo, cons_ex, cons_ok_ex, lbind_ok, lbind_ex, bind_ok, bind_ex, cond_b, kp_sh, kp_fr, kp_ex, tru_bl, tru_ex, tru_lst, tru_str, ofB_some', ofV_some, ofO_some, nox_ok, chnR_eq c_le_int, cmpR_eq c_le_int, cmpR_eq c_lt_int, cmpR_eq c_ge_int, cmpR_eq c_gt_int, cmpR_eq c_eq_int, cmpR_eq c_ne_int, cmpR_eq c_eq_str, cmpR_eq c_ne_str, cmpR_eq c_in_sgn, cmpR_eq c_nin_sgn, cmpR_eq c_is_non, cmpR_eq c_isnot_non, b_len_lst, b_len_tup, b_len_cdt, b_len_str, b_all, b_int_int, b_int_bl, b_int_str, b_str_int, b_str_str, b_isinst, b_list_lst, b_list_dct, b_tuple_lst, strK_str, m_sw, fk_sh, fk_fr, fk_ex, fl_ok, fl_ex, lfl_ok, lfl_ex, fc_b, fc_ex, seq_nx, seq_rt, seq_ex, seq_bk, seq_ct, ofFl_rt, ofFl_nx, ofFl_ex, turn_nx, turn_ct, turn_bk, turn_rt, turn_ex, it_lst, it_tup, it_str, it_rng1, it_rng2, it_enum, cmpR_eq c_ne_bl, cmpR_eq c_eq_bl, List.length_cons, List.length_nil, Nat.zero_add, Nat.reduceAdd, Nat.reduceLeDiff, BEq.rfl, clr, slots, Option.map, tgB, List.set_cons_zero, List.set_cons_succ, calR, toSl, Bool.false_eq_true, if_false, if_true, rtlR, frzL, frz1, List.foldl_cons, List.foldl_nil, owOf, ownK, lstK, appP, owS, raiR, tupR, lstR, Bool.not_true, Bool.not_false, nobF, ofF, ty_int0, ty_int1, ty_int2, ty_int3, ty_int4, is23_int, ty_str0, ty_str1, ty_str2, ty_str3, ty_str4, is23_str, ty_lst0, ty_lst1, ty_lst2, ty_lst3, ty_lst4, is23_lst, ty_tup0, ty_tup1, ty_tup2, ty_tup3, ty_tup4, is23_tup, ty_bl0, ty_bl1, ty_bl2, ty_bl3, ty_bl4, is23_bl, ty_non0, ty_non1, ty_non2, ty_non3, ty_non4, is23_non, hs0, s1, hlc, hadd]
  rw [ret_of (ev_join hall (by simp only at hlw; omega))]
  rfl
theorem lw_it' (r : List It) (h1 : r.length ≤ 200) (h2 : ∀ i ∈ r, i.ok) : lw (r.map It.t) ≤ 20200 := by
  have h := lw_all (r.map It.t) 100 (fun y hy => by
    obtain ⟨i, hi, rfl⟩ := List.mem_map.mp hy
    exact It.len (h2 i hi))
  rw [List.length_map] at h
  omega
theorem f6i (d : Nat) (v : PV) (r : List It) (hv : itm .seq [v] = some (r.map It.v)) (h1 : r.length ≤ 200) (h2 : ∀ i ∈ r, i.ok) : callF P (d + 1) 6 [v] = .ok .sh (.str (rowT r)) := by
  rw [e6]
  have hSL : (SL : Nat) = 16000000 := rfl
  have hlc := lc_map (X := ⟨callF P d, par, 4⟩) (env := [.sh v, .un]) (tg := .v 1) (kk := .seq) (src := .cons (.loc 0) .nil) (elt := .blt .str (.cons (.loc 1) .nil)) It.v (fun i => .str i.t) r (nb := true) (vs := [v]) (by simp -implicitDefEqProofs only [execs, exec, ev, evs, evC, evP, execM, List.getElem?_cons_zero, List.getElem?_cons_succ, sl_sh, sl_ow, sl_sht, sl_owt, fin_f, fin_t, cons_sh, cons_fr, cons_bo, cons_ex, cons_ok_ex, lbind_ok, lbind_ex, bind_ok, bind_ex, cond_b, kp_sh, kp_fr, kp_ex, tru_bl, tru_ex, tru_lst, tru_str, ofB_some', ofV_some, ofO_some, nox_ok, chnR_eq c_le_int, cmpR_eq c_le_int, cmpR_eq c_lt_int, cmpR_eq c_ge_int, cmpR_eq c_gt_int, cmpR_eq c_eq_int, cmpR_eq c_ne_int, cmpR_eq c_eq_str, cmpR_eq c_ne_str, cmpR_eq c_in_sgn, cmpR_eq c_nin_sgn, cmpR_eq c_is_non, cmpR_eq c_isnot_non, b_len_lst, b_len_tup, b_len_cdt, b_len_str, b_all, b_int_int, b_int_bl, b_int_str, b_str_int, b_str_str, b_isinst, b_list_lst, b_list_dct, b_tuple_lst, strK_str, m_sw, fk_sh, fk_fr, fk_ex, fl_ok, fl_ex, lfl_ok, lfl_ex, fc_b, fc_ex, seq_nx, seq_rt, seq_ex, seq_bk, seq_ct, ofFl_rt, ofFl_nx, ofFl_ex, turn_nx, turn_ct, turn_bk, turn_rt, turn_ex, it_lst, it_tup, it_str, it_rng1, it_rng2, it_enum, cmpR_eq c_ne_bl, cmpR_eq c_eq_bl, List.length_cons, List.length_nil, Nat.zero_add, Nat.reduceAdd, Nat.reduceLeDiff, BEq.rfl, clr, slots, Option.map, tgB, List.set_cons_zero, List.set_cons_succ, calR, toSl, Bool.false_eq_true, if_false, if_true, rtlR, frzL, frz1, List.foldl_cons, List.foldl_nil, owOf, ownK, lstK, appP, owS, raiR, tupR, lstR, Bool.not_true, Bool.not_false, nobF, ofF, ty_int0, ty_int1, ty_int2, ty_int3, ty_int4, is23_int, ty_str0, ty_str1, ty_str2, ty_str3, ty_str4, is23_str, ty_lst0, ty_lst1, ty_lst2, ty_lst3, ty_lst4, is23_lst, ty_tup0, ty_tup1, ty_tup2, ty_tup3, ty_tup4, is23_tup, ty_bl0, ty_bl1, ty_bl2, ty_bl3, ty_bl4, is23_bl, ty_non0, ty_non1, ty_non2, ty_non3, ty_non4, is23_non]) hv (fun i hi => ⟨[.sh v, .sh i.v], rfl, .inl (by simp -implicitDefEqProofs only [execs, exec, ev, evs, evC, evP, execM, List.getElem?_cons_zero, List.getElem?_cons_succ, sl_sh, sl_ow, sl_sht, sl_owt, fin_f, fin_t, cons_sh, cons_fr, cons_bo, cons_ex, cons_ok_ex, lbind_ok, lbind_ex, bind_ok, bind_ex, cond_b, kp_sh, kp_fr, kp_ex, tru_bl, tru_ex, tru_lst, tru_str, ofB_some', ofV_some, ofO_some, nox_ok, chnR_eq c_le_int, cmpR_eq c_le_int, cmpR_eq c_lt_int, cmpR_eq c_ge_int, cmpR_eq c_gt_int, cmpR_eq c_eq_int, cmpR_eq c_ne_int, cmpR_eq c_eq_str, cmpR_eq c_ne_str, cmpR_eq c_in_sgn, cmpR_eq c_nin_sgn, cmpR_eq c_is_non, cmpR_eq c_isnot_non, b_len_lst, b_len_tup, b_len_cdt, b_len_str, b_all, b_int_int, b_int_bl, b_int_str, b_str_int, b_str_str, b_isinst, b_list_lst, b_list_dct, b_tuple_lst, strK_str, m_sw, fk_sh, fk_fr, fk_ex, fl_ok, fl_ex, lfl_ok, lfl_ex, fc_b, fc_ex, seq_nx, seq_rt, seq_ex, seq_bk, seq_ct, ofFl_rt, ofFl_nx, ofFl_ex, turn_nx, turn_ct, turn_bk, turn_rt, turn_ex, it_lst, it_tup, it_str, it_rng1, it_rng2, it_enum, cmpR_eq c_ne_bl, cmpR_eq c_eq_bl, List.length_cons, List.length_nil, Nat.zero_add, Nat.reduceAdd, Nat.reduceLeDiff, BEq.rfl, clr, slots, Option.map, tgB, List.set_cons_zero, List.set_cons_succ, calR, toSl, Bool.false_eq_true, if_false, if_true, rtlR, frzL, frz1, List.foldl_cons, List.foldl_nil, owOf, ownK, lstK, appP, owS, raiR, tupR, lstR, Bool.not_true, Bool.not_false, nobF, ofF, ty_int0, ty_int1, ty_int2, ty_int3, ty_int4, is23_int, ty_str0, ty_str1, ty_str2, ty_str3, ty_str4, is23_str, ty_lst0, ty_lst1, ty_lst2, ty_lst3, ty_lst4, is23_lst, ty_tup0, ty_tup1, ty_tup2, ty_tup3, ty_tup4, is23_tup, ty_bl0, ty_bl1, ty_bl2, ty_bl3, ty_bl4, is23_bl, ty_non0, ty_non1, ty_non2, ty_non3, ty_non4, is23_non, It.str (h2 i hi)])⟩)
  have e : (r.map fun i => PV.str i.t) = (r.map It.t).map .str := by rw [List.map_map]; rfl
  rw [e] at hlc
  unfold b6
  rw [ret_of (ev_join hlc (by have := lw_it' r h1 h2; omega))]
  rfl
theorem joinS_not {c e : Nat} (hc : c ≠ e) : ∀ ys : List (List Nat), (∀ y ∈ ys, c ∉ y) → c ∉ joinS [e] ys
  | [], _ => by simp [joinS]
  | [x], h => h x List.mem_cons_self
  | x :: y :: r, h => by
    have ih := joinS_not hc (y :: r) (fun z hz => h z (List.mem_cons_of_mem _ hz))
    have h1 := h x List.mem_cons_self
    simp -implicitDefEqProofs only [joinS, List.mem_append, not_or]
    exact ⟨⟨h1, by simpa using hc⟩, ih⟩
theorem numsOf_num : ∀ r : List Nat, (∀ n ∈ r, n < 10 ^ 18) → numsOf (r.map numD) = some r
  | [], _ => rfl
  | n :: r, h => by
    have ih := numsOf_num r (fun m hm => h m (List.mem_cons_of_mem _ hm))
    simp -implicitDefEqProofs only [List.map_cons, numsOf, rdNum_num n (h n List.mem_cons_self), ih]
theorem w_not (c : Nat) (m : Nat) (r : List Nat) (hf : isFig c = false) (hc : c ≠ 58) : ∀ y ∈ (numD m :: [58] :: r.map numD), c ∉ y := fun y hy => by
  simp -implicitDefEqProofs only [List.mem_cons] at hy
  rcases hy with rfl | rfl | hy
  · exact num_not m hf
  · simpa using hc
  · obtain ⟨n, _, rfl⟩ := List.mem_map.mp hy
    exact num_not n hf
/-- .. read back -/
theorem tW_back (p : Nat × List Nat) (hg : areW p = true) (hm : p.1 ≤ 40) (h1 : 1 ≤ p.2.length) (hr : ∀ n ∈ p.2, n ≤ 40) : rdW (tW p) = .yes p := by
  obtain ⟨m, r⟩ := p
  have h10 : 10 ∉ tW (m, r) := joinS_not (by decide) _ (w_not 10 m r rfl (by decide))
  have hsp : splitOn 32 (tW (m, r)) = numD m :: [58] :: r.map numD := split_join 32 _ (by simp) (w_not 32 m r rfl (by decide))
  have hw : wlOf (tW (m, r)) = some (m, r) := by
    unfold wlOf
    rw [hsp]
    match r, h1 with
    | c :: r, _ =>
      rw [List.map_cons, wl1_y, ← List.map_cons, numsOf_num (c :: r) (fun n hn => by have := hr n hn; omega), rdNum_num m (by simp only at hm; omega)]
  unfold rdW rdW1
  rw [split_none 10 _ h10]
  simp -implicitDefEqProofs only [List.map_cons, List.map_nil, hw]
  have e : [some (m, r)].findIdx? isNone' = none := rfl
  rw [e]
  unfold rdW2 rdW3
  simp [hg]
end Wk81
set_option Elab.async false
set_option linter.all false
set_option maxRecDepth 100000
set_option maxHeartbeats 2000000
namespace Wk81
open EV
theorem sw_add {m : Nat} {r : List Nat} (h2 : r.length ≤ 160) : binP .add (.lst [.int (m : Int), .str [58]]) (encL r) = .ok .fr (.lst (.int (m : Int) :: .str [58] :: r.map fun (n : Nat) => .int (n : Int))) := by
  have hLL : (LL : Nat) = 16777216 := rfl
  unfold encL
  rw [addL (by simp -implicitDefEqProofs only [List.length_cons, List.length_nil, List.length_map]; omega)]
  rfl
theorem sw_row (m : Nat) (r : List Nat) : rowT (.n m :: .s [58] :: r.map It.n) = tW (m, r) := by
  unfold rowT tW
  rw [List.map_cons, List.map_cons, List.map_map]
  rfl
theorem sw_itm (m : Nat) (r : List Nat) : itm .seq [.lst (.int (m : Int) :: .str [58] :: r.map fun (n : Nat) => .int (n : Int))] = some ((It.n m :: It.s [58] :: r.map It.n).map It.v) := by
  rw [it_lst, List.map_cons, List.map_cons, List.map_map]
  rfl
theorem sw_ok {m : Nat} {r : List Nat} (h1 : m < 10 ^ 19) (h3 : ∀ n ∈ r, n < 10 ^ 19) : ∀ i ∈ (It.n m :: It.s [58] :: r.map It.n), i.ok := fun i hi => by
  rcases List.mem_cons.mp hi with h | hi
  · rw [h]; exact ok_n h1
  · rcases List.mem_cons.mp hi with h | hi
    · rw [h]; exact ok_s (by decide)
    · obtain ⟨n, hn, h⟩ := List.mem_map.mp hi
      rw [← h]
      exact ok_n (h3 n hn)
theorem sw_body (X : EC) (m : Int) (r L : List PV) (T : List Nat) (hadd : binP .add (.lst [.int m, .str [58]]) (.lst r) = .ok .fr (.lst L)) (h : X.call 6 [.lst L] = .ok .sh (.str T)) :
    ofFl (execs X b12 [.sh (.tup [.int m, .lst r]), .un, .un]) = .ok .sh (.str T) := by
  unfold b12
  rw [stp (env' := [.sh (.tup [.int m, .lst r]), .sh (.int m), .sh (.lst r)]) (by simp -implicitDefEqProofs only [execs, exec, ev, evs, evC, evP, execM, List.getElem?_cons_zero, List.getElem?_cons_succ, sl_sh, sl_ow, sl_sht, sl_owt, fin_f, fin_t, cons_sh, cons_fr, cons_bo, cons_ex, cons_ok_ex, lbind_ok, lbind_ex, bind_ok, bind_ex, cond_b, kp_sh, kp_fr, kp_ex, tru_bl, tru_ex, tru_lst, tru_str, ofB_some', ofV_some, ofO_some, nox_ok, chnR_eq c_le_int, cmpR_eq c_le_int, cmpR_eq c_lt_int, cmpR_eq c_ge_int, cmpR_eq c_gt_int, cmpR_eq c_eq_int, cmpR_eq c_ne_int, cmpR_eq c_eq_str, cmpR_eq c_ne_str, cmpR_eq c_in_sgn, cmpR_eq c_nin_sgn, cmpR_eq c_is_non, cmpR_eq c_isnot_non, b_len_lst, b_len_tup, b_len_cdt, b_len_str, b_all, b_int_int, b_int_bl, b_int_str, b_str_int, b_str_str, b_isinst, b_list_lst, b_list_dct, b_tuple_lst, strK_str, m_sw, fk_sh, fk_fr, fk_ex, fl_ok, fl_ex, lfl_ok, lfl_ex, fc_b, fc_ex, seq_nx, seq_rt, seq_ex, seq_bk, seq_ct, ofFl_rt, ofFl_nx, ofFl_ex, turn_nx, turn_ct, turn_bk, turn_rt, turn_ex, it_lst, it_tup, it_str, it_rng1, it_rng2, it_enum, cmpR_eq c_ne_bl, cmpR_eq c_eq_bl, List.length_cons, List.length_nil, Nat.zero_add, Nat.reduceAdd, Nat.reduceLeDiff, BEq.rfl, clr, slots, Option.map, tgB, List.set_cons_zero, List.set_cons_succ, calR, toSl, Bool.false_eq_true, if_false, if_true, rtlR, frzL, frz1, List.foldl_cons, List.foldl_nil, owOf, ownK, lstK, appP, owS, raiR, tupR, lstR, Bool.not_true, Bool.not_false, nobF, ofF, ty_int0, ty_int1, ty_int2, ty_int3, ty_int4, is23_int, ty_str0, ty_str1, ty_str2, ty_str3, ty_str4, is23_str, ty_lst0, ty_lst1, ty_lst2, ty_lst3, ty_lst4, is23_lst, ty_tup0, ty_tup1, ty_tup2, ty_tup3, ty_tup4, is23_tup, ty_bl0, ty_bl1, ty_bl2, ty_bl3, ty_bl4, is23_bl, ty_non0, ty_non1, ty_non2, ty_non3, ty_non4, is23_non, unpR, updL])]
  generalize PV.tup [.int m, .lst r] = W
  have h1 : evs X (.cons (.loc 1) (.cons (.cst (.str [58])) .nil)) [.sh W, .sh (.int m), .sh (.lst r)] = .ok true [.int m, .str [58]] := by simp -implicitDefEqProofs only [execs, exec, ev, evs, evC, evP, execM, List.getElem?_cons_zero, List.getElem?_cons_succ, sl_sh, sl_ow, sl_sht, sl_owt, fin_f, fin_t, cons_sh, cons_fr, cons_bo, cons_ex, cons_ok_ex, lbind_ok, lbind_ex, bind_ok, bind_ex, cond_b, kp_sh, kp_fr, kp_ex, tru_bl, tru_ex, tru_lst, tru_str, ofB_some', ofV_some, ofO_some, nox_ok, chnR_eq c_le_int, cmpR_eq c_le_int, cmpR_eq c_lt_int, cmpR_eq c_ge_int, cmpR_eq c_gt_int, cmpR_eq c_eq_int, cmpR_eq c_ne_int, cmpR_eq c_eq_str, cmpR_eq c_ne_str, cmpR_eq c_in_sgn, cmpR_eq c_nin_sgn, cmpR_eq c_is_non, cmpR_eq c_isnot_non, b_len_lst, b_len_tup, b_len_cdt, b_len_str, b_all, b_int_int, b_int_bl, b_int_str, b_str_int, b_str_str, b_isinst, b_list_lst, b_list_dct, b_tuple_lst, strK_str, m_sw, fk_sh, fk_fr, fk_ex, fl_ok, fl_ex, lfl_ok, lfl_ex, fc_b, fc_ex, seq_nx, seq_rt, seq_ex, seq_bk, seq_ct, ofFl_rt, ofFl_nx, ofFl_ex, turn_nx, turn_ct, turn_bk, turn_rt, turn_ex, it_lst, it_tup, it_str, it_rng1, it_rng2, it_enum, cmpR_eq c_ne_bl, cmpR_eq c_eq_bl, List.length_cons, List.length_nil, Nat.zero_add, Nat.reduceAdd, Nat.reduceLeDiff, BEq.rfl, clr, slots, Option.map, tgB, List.set_cons_zero, List.set_cons_succ, calR, toSl, Bool.false_eq_true, if_false, if_true, rtlR, frzL, frz1, List.foldl_cons, List.foldl_nil, owOf, ownK, lstK, appP, owS, raiR, tupR, lstR, Bool.not_true, Bool.not_false, nobF, ofF, ty_int0, ty_int1, ty_int2, ty_int3, ty_int4, is23_int, ty_str0, ty_str1, ty_str2, ty_str3, ty_str4, is23_str, ty_lst0, ty_lst1, ty_lst2, ty_lst3, ty_lst4, is23_lst, ty_tup0, ty_tup1, ty_tup2, ty_tup3, ty_tup4, is23_tup, ty_bl0, ty_bl1, ty_bl2, ty_bl3, ty_bl4, is23_bl, ty_non0, ty_non1, ty_non2, ty_non3, ty_non4, is23_non]
  have h2 : ev X false (.lst (.cons (.loc 1) (.cons (.cst (.str [58])) .nil))) [.sh W, .sh (.int m), .sh (.lst r)] = .ok .fr (.lst [.int m, .str [58]]) := by
    simp -implicitDefEqProofs only [ev, fin_f, h1, lbind_ok, lstR, List.length_cons, List.length_nil, Nat.zero_add, Nat.reduceAdd, Nat.reduceLeDiff, if_true]
  generalize IR.lst (.cons (.loc 1) (.cons (.cst (.str [58])) .nil)) = ir at h2
  simp -implicitDefEqProofs only [execs, exec, ev, evs, evC, evP, execM, List.getElem?_cons_zero, List.getElem?_cons_succ, sl_sh, sl_ow, sl_sht, sl_owt, fin_f, fin_t, cons_sh, cons_fr, cons_bo, cons_ex, cons_ok_ex, lbind_ok, lbind_ex, bind_ok, bind_ex, cond_b, kp_sh, kp_fr, kp_ex, tru_bl, tru_ex, tru_lst, tru_str, ofB_some', ofV_some, ofO_some, nox_ok, chnR_eq c_le_int, cmpR_eq c_le_int, cmpR_eq c_lt_int, cmpR_eq c_ge_int, cmpR_eq c_gt_int, cmpR_eq c_eq_int, cmpR_eq c_ne_int, cmpR_eq c_eq_str, cmpR_eq c_ne_str, cmpR_eq c_in_sgn, cmpR_eq c_nin_sgn, cmpR_eq c_is_non, cmpR_eq c_isnot_non, b_len_lst, b_len_tup, b_len_cdt, b_len_str, b_all, b_int_int, b_int_bl, b_int_str, b_str_int, b_str_str, b_isinst, b_list_lst, b_list_dct, b_tuple_lst, strK_str, m_sw, fk_sh, fk_fr, fk_ex, fl_ok, fl_ex, lfl_ok, lfl_ex, fc_b, fc_ex, seq_nx, seq_rt, seq_ex, seq_bk, seq_ct, ofFl_rt, ofFl_nx, ofFl_ex, turn_nx, turn_ct, turn_bk, turn_rt, turn_ex, it_lst, it_tup, it_str, it_rng1, it_rng2, it_enum, cmpR_eq c_ne_bl, cmpR_eq c_eq_bl, List.length_cons, List.length_nil, Nat.zero_add, Nat.reduceAdd, Nat.reduceLeDiff, BEq.rfl, clr, slots, Option.map, tgB, List.set_cons_zero, List.set_cons_succ, calR, toSl, Bool.false_eq_true, if_false, if_true, rtlR, frzL, frz1, List.foldl_cons, List.foldl_nil, owOf, ownK, lstK, appP, owS, raiR, tupR, lstR, Bool.not_true, Bool.not_false, nobF, ofF, ty_int0, ty_int1, ty_int2, ty_int3, ty_int4, is23_int, ty_str0, ty_str1, ty_str2, ty_str3, ty_str4, is23_str, ty_lst0, ty_lst1, ty_lst2, ty_lst3, ty_lst4, is23_lst, ty_tup0, ty_tup1, ty_tup2, ty_tup3, ty_tup4, is23_tup, ty_bl0, ty_bl1, ty_bl2, ty_bl3, ty_bl4, is23_bl, ty_non0, ty_non1, ty_non2, ty_non3, ty_non4, is23_non, h2, hadd, h]
theorem f12 (d : Nat) (p : Nat × List Nat) (hg : goodW p) : callF P (d + 2) 12 [wV p] = .ok .sh (.str (tW p)) := by
  obtain ⟨m, r⟩ := p
  obtain ⟨h1, h2, h3⟩ := hg.o
  have hadd := sw_add (m := m) h2
  have h := f6i d (.lst (.int (m : Int) :: .str [58] :: r.map fun (n : Nat) => .int (n : Int))) (.n m :: .s [58] :: r.map It.n) (sw_itm m r) (by simp -implicitDefEqProofs only [List.length_cons, List.length_map]; omega) (sw_ok h1 h3)
  rw [sw_row] at h
  generalize (.int (m : Int) :: .str [58] :: r.map fun (n : Nat) => PV.int (n : Int)) = L at hadd h
  generalize tW (m, r) = T at h
  rw [e12]
  exact sw_body ⟨callF P (d + 1), par, 4⟩ (m : Int) (r.map fun (n : Nat) => .int (n : Int)) L T hadd h
end Wk81
set_option Elab.async false
set_option linter.all false
set_option maxRecDepth 100000
set_option maxHeartbeats 2000000
namespace Wk81
open EV
theorem f16' {d : Nat} {ns : List Int} {v : PV} (hv : Scr ns v) {i j : Int} (a n : Nat) (hi : i = (a : Int)) (hj : j = (n : Int)) (hn : n ≤ 100000) : callF P (d + 1) 16 [v, .int i, .int j] = .ok .fr (.lst ((lawN a (firC ns a) n).map .int)) := by
  rw [hi, hj]
  exact f16 d ns v hv a n hn
def lwT : Ss := (.cons (.set 13 (.call 16 (.cons (.loc 0) (.cons (.bin .add (.cst (.int 2)) (.loc 12)) (.cons (.cst (.int 14)) .nil)))))
 (.cons (.frz [6, 13] (.set 14 (.call 24 (.cons (.loc 6) (.cons (.loc 13) .nil)))))
 (.cons (.frz [14] (.ifs (.or (.nt (.call 23 (.cons (.cst (.int 0)) (.cons (.loc 14) .nil)))) (.nt (.call 23 (.cons (.cst (.int 0)) (.cons (.call 24 (.cons (.loc 14) (.cons (.slc (.loc 13) (.cons (.cst (.int 7)) .nil) .nil) .nil))) .nil))))) (.cons (.ret (.cst (.bl false)))
 .nil) .nil))
 .nil)))
def lwO : Ss := (.cons (.frz [11] (.ifs (.nt (.call 23 (.cons (.cst (.int 0)) (.cons (.loc 11) .nil)))) (.cons (.ret (.cst (.bl false)))
 .nil) .nil))
 .nil)
theorem lwTurn (d : Nat) (ns : List Int) (v : PV) (hv : Scr ns v) (x1 x2 x3 x4 x5 x7 x8 x9 x10 x11 : Sl) (t : List Nat) (ht : t.length ≤ 10000) (j : Nat) (hj : j < 1000) :
    ∃ e', execs ⟨callF P (d + 20), par, 4⟩ lwT [.sh v, x1, x2, x3, x4, x5, .sh (.str t), x7, x8, x9, x10, x11, .sh (.int (j : Int)), .un, .un] = .nx e' ∧ clr e' [12, 13, 14] = [.sh v, x1, x2, x3, x4, x5, .sh (.str t), x7, x8, x9, x10, x11, .un, .un, .un] := by
  have eC : binP .add (.int 2) (.int (j : Int)) = .ok .sh (.int ((2 + j : Nat) : Int)) := addx.trans (int_congr (by omega))
  have h22 := f16' (d := d + 19) (j := 14) hv (2 + j) 14 rfl rfl (by decide)
  have hLl := lawN_len ((2 + j : Nat) : Int) (firC ns (2 + j)) 14
  generalize lawN ((2 + j : Nat) : Int) (firC ns (2 + j)) 14 = L at h22 hLl
  obtain ⟨u, u1, u2⟩ := fcd (d + 19) t L (by omega) (by omega)
  have hcut : cut (L.map PV.int) (some 7) none = (L.drop 7).map .int := by
    rw [cut_map]
    congr 1
    unfold cut clp
    simp only
    rw [if_neg (by decide), hLl]
    apply List.take_of_length_le
    simp [hLl]
  obtain ⟨u', u3, u4⟩ := fcd (d + 19) u (L.drop 7) (by simp [hLl]) (by omega)
  have r1 := f23 (d + 8) 0 u (by omega)
  have r2 := f23 (d + 8) 0 u' (by omega)
  unfold lwT
  rw [stp (env' := [.sh v, x1, x2, x3, x4, x5, .sh (.str t), x7, x8, x9, x10, x11, .sh (.int (j : Int)), .ow (.lst (L.map .int)), .un]) (by simp -implicitDefEqProofs only [execs, exec, ev, evs, evC, evP, execM, List.getElem?_cons_zero, List.getElem?_cons_succ, sl_sh, sl_ow, sl_sht, sl_owt, fin_f, fin_t, cons_sh, cons_fr, cons_bo, cons_ex, cons_ok_ex, lbind_ok, lbind_ex, bind_ok, bind_ex, cond_b, kp_sh, kp_fr, kp_ex, tru_bl, tru_ex, tru_lst, tru_str, ofB_some', ofV_some, ofO_some, nox_ok, chnR_eq c_le_int, cmpR_eq c_le_int, cmpR_eq c_lt_int, cmpR_eq c_ge_int, cmpR_eq c_gt_int, cmpR_eq c_eq_int, cmpR_eq c_ne_int, cmpR_eq c_eq_str, cmpR_eq c_ne_str, cmpR_eq c_in_sgn, cmpR_eq c_nin_sgn, cmpR_eq c_is_non, cmpR_eq c_isnot_non, b_len_lst, b_len_tup, b_len_cdt, b_len_str, b_all, b_int_int, b_int_bl, b_int_str, b_str_int, b_str_str, b_isinst, b_list_lst, b_list_dct, b_tuple_lst, strK_str, m_sw, fk_sh, fk_fr, fk_ex, fl_ok, fl_ex, lfl_ok, lfl_ex, fc_b, fc_ex, seq_nx, seq_rt, seq_ex, seq_bk, seq_ct, ofFl_rt, ofFl_nx, ofFl_ex, turn_nx, turn_ct, turn_bk, turn_rt, turn_ex, it_lst, it_tup, it_str, it_rng1, it_rng2, it_enum, cmpR_eq c_ne_bl, cmpR_eq c_eq_bl, List.length_cons, List.length_nil, Nat.zero_add, Nat.reduceAdd, Nat.reduceLeDiff, BEq.rfl, clr, slots, Option.map, tgB, List.set_cons_zero, List.set_cons_succ, calR, toSl, Bool.false_eq_true, if_false, if_true, rtlR, frzL, frz1, List.foldl_cons, List.foldl_nil, owOf, ownK, lstK, appP, owS, raiR, tupR, lstR, Bool.not_true, Bool.not_false, nobF, ofF, ty_int0, ty_int1, ty_int2, ty_int3, ty_int4, is23_int, ty_str0, ty_str1, ty_str2, ty_str3, ty_str4, is23_str, ty_lst0, ty_lst1, ty_lst2, ty_lst3, ty_lst4, is23_lst, ty_tup0, ty_tup1, ty_tup2, ty_tup3, ty_tup4, is23_tup, ty_bl0, ty_bl1, ty_bl2, ty_bl3, ty_bl4, is23_bl, ty_non0, ty_non1, ty_non2, ty_non3, ty_non4, is23_non, eC, h22]),
    stp (env' := [.sh v, x1, x2, x3, x4, x5, .sh (.str t), x7, x8, x9, x10, x11, .sh (.int (j : Int)), .sh (.lst (L.map .int)), .sh (.str u)]) (by simp -implicitDefEqProofs only [execs, exec, ev, evs, evC, evP, execM, List.getElem?_cons_zero, List.getElem?_cons_succ, sl_sh, sl_ow, sl_sht, sl_owt, fin_f, fin_t, cons_sh, cons_fr, cons_bo, cons_ex, cons_ok_ex, lbind_ok, lbind_ex, bind_ok, bind_ex, cond_b, kp_sh, kp_fr, kp_ex, tru_bl, tru_ex, tru_lst, tru_str, ofB_some', ofV_some, ofO_some, nox_ok, chnR_eq c_le_int, cmpR_eq c_le_int, cmpR_eq c_lt_int, cmpR_eq c_ge_int, cmpR_eq c_gt_int, cmpR_eq c_eq_int, cmpR_eq c_ne_int, cmpR_eq c_eq_str, cmpR_eq c_ne_str, cmpR_eq c_in_sgn, cmpR_eq c_nin_sgn, cmpR_eq c_is_non, cmpR_eq c_isnot_non, b_len_lst, b_len_tup, b_len_cdt, b_len_str, b_all, b_int_int, b_int_bl, b_int_str, b_str_int, b_str_str, b_isinst, b_list_lst, b_list_dct, b_tuple_lst, strK_str, m_sw, fk_sh, fk_fr, fk_ex, fl_ok, fl_ex, lfl_ok, lfl_ex, fc_b, fc_ex, seq_nx, seq_rt, seq_ex, seq_bk, seq_ct, ofFl_rt, ofFl_nx, ofFl_ex, turn_nx, turn_ct, turn_bk, turn_rt, turn_ex, it_lst, it_tup, it_str, it_rng1, it_rng2, it_enum, cmpR_eq c_ne_bl, cmpR_eq c_eq_bl, List.length_cons, List.length_nil, Nat.zero_add, Nat.reduceAdd, Nat.reduceLeDiff, BEq.rfl, clr, slots, Option.map, tgB, List.set_cons_zero, List.set_cons_succ, calR, toSl, Bool.false_eq_true, if_false, if_true, rtlR, frzL, frz1, List.foldl_cons, List.foldl_nil, owOf, ownK, lstK, appP, owS, raiR, tupR, lstR, Bool.not_true, Bool.not_false, nobF, ofF, ty_int0, ty_int1, ty_int2, ty_int3, ty_int4, is23_int, ty_str0, ty_str1, ty_str2, ty_str3, ty_str4, is23_str, ty_lst0, ty_lst1, ty_lst2, ty_lst3, ty_lst4, is23_lst, ty_tup0, ty_tup1, ty_tup2, ty_tup3, ty_tup4, is23_tup, ty_bl0, ty_bl1, ty_bl2, ty_bl3, ty_bl4, is23_bl, ty_non0, ty_non1, ty_non2, ty_non3, ty_non4, is23_non, u1]),
    stp (env' := [.sh v, x1, x2, x3, x4, x5, .sh (.str t), x7, x8, x9, x10, x11, .sh (.int (j : Int)), .sh (.lst (L.map .int)), .sh (.str u)]) (by simp -implicitDefEqProofs only [execs, exec, ev, evs, evC, evP, execM, List.getElem?_cons_zero, List.getElem?_cons_succ, sl_sh, sl_ow, sl_sht, sl_owt, fin_f, fin_t, cons_sh, cons_fr, cons_bo, cons_ex, cons_ok_ex, lbind_ok, lbind_ex, bind_ok, bind_ex, cond_b, kp_sh, kp_fr, kp_ex, tru_bl, tru_ex, tru_lst, tru_str, ofB_some', ofV_some, ofO_some, nox_ok, chnR_eq c_le_int, cmpR_eq c_le_int, cmpR_eq c_lt_int, cmpR_eq c_ge_int, cmpR_eq c_gt_int, cmpR_eq c_eq_int, cmpR_eq c_ne_int, cmpR_eq c_eq_str, cmpR_eq c_ne_str, cmpR_eq c_in_sgn, cmpR_eq c_nin_sgn, cmpR_eq c_is_non, cmpR_eq c_isnot_non, b_len_lst, b_len_tup, b_len_cdt, b_len_str, b_all, b_int_int, b_int_bl, b_int_str, b_str_int, b_str_str, b_isinst, b_list_lst, b_list_dct, b_tuple_lst, strK_str, m_sw, fk_sh, fk_fr, fk_ex, fl_ok, fl_ex, lfl_ok, lfl_ex, fc_b, fc_ex, seq_nx, seq_rt, seq_ex, seq_bk, seq_ct, ofFl_rt, ofFl_nx, ofFl_ex, turn_nx, turn_ct, turn_bk, turn_rt, turn_ex, it_lst, it_tup, it_str, it_rng1, it_rng2, it_enum, cmpR_eq c_ne_bl, cmpR_eq c_eq_bl, List.length_cons, List.length_nil, Nat.zero_add, Nat.reduceAdd, Nat.reduceLeDiff, BEq.rfl, clr, slots, Option.map, tgB, List.set_cons_zero, List.set_cons_succ, calR, toSl, Bool.false_eq_true, if_false, if_true, rtlR, frzL, frz1, List.foldl_cons, List.foldl_nil, owOf, ownK, lstK, appP, owS, raiR, tupR, lstR, Bool.not_true, Bool.not_false, nobF, ofF, ty_int0, ty_int1, ty_int2, ty_int3, ty_int4, is23_int, ty_str0, ty_str1, ty_str2, ty_str3, ty_str4, is23_str, ty_lst0, ty_lst1, ty_lst2, ty_lst3, ty_lst4, is23_lst, ty_tup0, ty_tup1, ty_tup2, ty_tup3, ty_tup4, is23_tup, ty_bl0, ty_bl1, ty_bl2, ty_bl3, ty_bl4, is23_bl, ty_non0, ty_non1, ty_non2, ty_non3, ty_non4, is23_non, r1, intK_int, slc_lst, hcut, u3, r2])]
  exact ⟨_, rfl, rfl⟩
theorem lwOther (d : Nat) (x0 x1 x2 x3 x4 x5 x6 x7 x8 x9 x10 : Sl) (t : List Nat) (ht : t.length ≤ 1000000) :
    ∃ e', execs ⟨callF P (d + 20), par, 4⟩ lwO [x0, x1, x2, x3, x4, x5, x6, x7, x8, x9, x10, .sh (.str t), .un, .un, .un] = .nx e' ∧ clr e' [11] = [x0, x1, x2, x3, x4, x5, x6, x7, x8, x9, x10, .un, .un, .un, .un] := by
  have r1 := f23 (d + 8) 0 t (by omega)
  unfold lwO
  rw [stp (env' := [x0, x1, x2, x3, x4, x5, x6, x7, x8, x9, x10, .sh (.str t), .un, .un, .un]) (by simp -implicitDefEqProofs only [execs, exec, ev, evs, evC, evP, execM, List.getElem?_cons_zero, List.getElem?_cons_succ, sl_sh, sl_ow, sl_sht, sl_owt, fin_f, fin_t, cons_sh, cons_fr, cons_bo, cons_ex, cons_ok_ex, lbind_ok, lbind_ex, bind_ok, bind_ex, cond_b, kp_sh, kp_fr, kp_ex, tru_bl, tru_ex, tru_lst, tru_str, ofB_some', ofV_some, ofO_some, nox_ok, chnR_eq c_le_int, cmpR_eq c_le_int, cmpR_eq c_lt_int, cmpR_eq c_ge_int, cmpR_eq c_gt_int, cmpR_eq c_eq_int, cmpR_eq c_ne_int, cmpR_eq c_eq_str, cmpR_eq c_ne_str, cmpR_eq c_in_sgn, cmpR_eq c_nin_sgn, cmpR_eq c_is_non, cmpR_eq c_isnot_non, b_len_lst, b_len_tup, b_len_cdt, b_len_str, b_all, b_int_int, b_int_bl, b_int_str, b_str_int, b_str_str, b_isinst, b_list_lst, b_list_dct, b_tuple_lst, strK_str, m_sw, fk_sh, fk_fr, fk_ex, fl_ok, fl_ex, lfl_ok, lfl_ex, fc_b, fc_ex, seq_nx, seq_rt, seq_ex, seq_bk, seq_ct, ofFl_rt, ofFl_nx, ofFl_ex, turn_nx, turn_ct, turn_bk, turn_rt, turn_ex, it_lst, it_tup, it_str, it_rng1, it_rng2, it_enum, cmpR_eq c_ne_bl, cmpR_eq c_eq_bl, List.length_cons, List.length_nil, Nat.zero_add, Nat.reduceAdd, Nat.reduceLeDiff, BEq.rfl, clr, slots, Option.map, tgB, List.set_cons_zero, List.set_cons_succ, calR, toSl, Bool.false_eq_true, if_false, if_true, rtlR, frzL, frz1, List.foldl_cons, List.foldl_nil, owOf, ownK, lstK, appP, owS, raiR, tupR, lstR, Bool.not_true, Bool.not_false, nobF, ofF, ty_int0, ty_int1, ty_int2, ty_int3, ty_int4, is23_int, ty_str0, ty_str1, ty_str2, ty_str3, ty_str4, is23_str, ty_lst0, ty_lst1, ty_lst2, ty_lst3, ty_lst4, is23_lst, ty_tup0, ty_tup1, ty_tup2, ty_tup3, ty_tup4, is23_tup, ty_bl0, ty_bl1, ty_bl2, ty_bl3, ty_bl4, is23_bl, ty_non0, ty_non1, ty_non2, ty_non3, ty_non4, is23_non, r1])]
  exact ⟨_, rfl, rfl⟩
end Wk81
set_option Elab.async false
set_option linter.all false
set_option maxRecDepth 100000
set_option maxHeartbeats 2000000
namespace Wk81
open EV
def lwM2 : IR := (.sub (.lst (.cons (.cst (.int 2)) (.cons (.cst (.int 40)) (.cons (.bin .add (.cst (.int 2)) (.bin .mod (.sub (.loc 1) (.cst (.int 0))) (.cst (.int 39)))) (.cons (.cst (.int 10)) (.cons (.cst (.int 11)) .nil)))))) (.bin .mod (.sub (.loc 1) (.cst (.int 1))) (.cst (.int 5))))
theorem lwMod (X : EC) (v S : PV) (z0 z1 : Int) (s0 : subP S (.int 0) = some (.int z0)) (s1 : subP S (.int 1) = some (.int z1)) (rest : List Sl) :
    ∃ M : Nat, 2 ≤ M ∧ M ≤ 40 ∧ ev X false lwM2 (.sh v :: .ow S :: rest) = .ok .sh (.int (M : Int)) := by
  obtain ⟨k, hk, ek⟩ := emod_nat z1 5 (by decide)
  obtain ⟨a, ha, ea⟩ := emod_nat z0 39 (by decide)
  rw [show ((5 : Nat) : Int) = 5 from rfl] at ek
  rw [show ((39 : Nat) : Int) = 39 from rfl] at ea
  have e1 : binP .mod (.int z1) (.int 5) = .ok .sh (.int (k : Int)) := (modx (by decide)).trans (int_congr ek)
  have e0 : binP .mod (.int z0) (.int 39) = .ok .sh (.int (a : Int)) := (modx (by decide)).trans (int_congr ea)
  have e2 : binP .add (.int 2) (.int (a : Int)) = .ok .sh (.int ((2 + a : Nat) : Int)) := addx.trans (int_congr (by omega))
  have hs : ∃ M : Nat, 2 ≤ M ∧ M ≤ 40 ∧ subP (.lst [.int 2, .int 40, .int ((2 + a : Nat) : Int), .int 10, .int 11]) (.int (k : Int)) = some (.int (M : Int)) := by
    match k, hk with
    | 0, _ => exact ⟨2, by decide, by decide, rfl⟩
    | 1, _ => exact ⟨40, by decide, by decide, rfl⟩
    | 2, _ => exact ⟨2 + a, by omega, by omega, rfl⟩
    | 3, _ => exact ⟨10, by decide, by decide, rfl⟩
    | 4, _ => exact ⟨11, by decide, by decide, rfl⟩
  obtain ⟨M, h1, h2, hs⟩ := hs
  refine ⟨M, h1, h2, ?_⟩
  unfold lwM2
  simp -implicitDefEqProofs only [execs, exec, ev, evs, evC, evP, execM, List.getElem?_cons_zero, List.getElem?_cons_succ, sl_sh, sl_ow, sl_sht, sl_owt, fin_f, fin_t, cons_sh, cons_fr, cons_bo, cons_ex, cons_ok_ex, lbind_ok, lbind_ex, bind_ok, bind_ex, cond_b, kp_sh, kp_fr, kp_ex, tru_bl, tru_ex, tru_lst, tru_str, ofB_some', ofV_some, ofO_some, nox_ok, chnR_eq c_le_int, cmpR_eq c_le_int, cmpR_eq c_lt_int, cmpR_eq c_ge_int, cmpR_eq c_gt_int, cmpR_eq c_eq_int, cmpR_eq c_ne_int, cmpR_eq c_eq_str, cmpR_eq c_ne_str, cmpR_eq c_in_sgn, cmpR_eq c_nin_sgn, cmpR_eq c_is_non, cmpR_eq c_isnot_non, b_len_lst, b_len_tup, b_len_cdt, b_len_str, b_all, b_int_int, b_int_bl, b_int_str, b_str_int, b_str_str, b_isinst, b_list_lst, b_list_dct, b_tuple_lst, strK_str, m_sw, fk_sh, fk_fr, fk_ex, fl_ok, fl_ex, lfl_ok, lfl_ex, fc_b, fc_ex, seq_nx, seq_rt, seq_ex, seq_bk, seq_ct, ofFl_rt, ofFl_nx, ofFl_ex, turn_nx, turn_ct, turn_bk, turn_rt, turn_ex, it_lst, it_tup, it_str, it_rng1, it_rng2, it_enum, cmpR_eq c_ne_bl, cmpR_eq c_eq_bl, List.length_cons, List.length_nil, Nat.zero_add, Nat.reduceAdd, Nat.reduceLeDiff, BEq.rfl, clr, slots, Option.map, tgB, List.set_cons_zero, List.set_cons_succ, calR, toSl, Bool.false_eq_true, if_false, if_true, rtlR, frzL, frz1, List.foldl_cons, List.foldl_nil, owOf, ownK, lstK, appP, owS, raiR, tupR, lstR, Bool.not_true, Bool.not_false, nobF, ofF, ty_int0, ty_int1, ty_int2, ty_int3, ty_int4, is23_int, ty_str0, ty_str1, ty_str2, ty_str3, ty_str4, is23_str, ty_lst0, ty_lst1, ty_lst2, ty_lst3, ty_lst4, is23_lst, ty_tup0, ty_tup1, ty_tup2, ty_tup3, ty_tup4, is23_tup, ty_bl0, ty_bl1, ty_bl2, ty_bl3, ty_bl4, is23_bl, ty_non0, ty_non1, ty_non2, ty_non3, ty_non4, is23_non, s0, s1, e0, e1, e2, hs]
theorem lwMost (X : EC) (x0 x1 : Sl) (M : Nat) (h1 : 2 ≤ M) (h2 : M ≤ 40) (rest : List Sl) :
    ∃ T : Nat, 1 ≤ T ∧ T ≤ 12 ∧ T * M ≤ 120 ∧ ev X false (.blt .min (.cons (.cst (.int 12)) (.cons (.bin .fdiv (.cst (.int 120)) (.loc 2)) .nil))) (x0 :: x1 :: .sh (.int (M : Int)) :: rest) = .ok .sh (.int (T : Int)) := by
  have e1 : binP .fdiv (.int 120) (.int (M : Int)) = .ok .sh (.int ((120 / M : Nat) : Int)) := (divx (by simp -implicitDefEqProofs only [Bool.and_eq_true, decide_eq_true_eq]; omega)).trans (int_congr (by simp))
  have e2 : bltP .min [.int 12, .int ((120 / M : Nat) : Int)] = .ok .sh (.int ((min 12 (120 / M) : Nat) : Int)) := by
    generalize 120 / M = z
    show Rs.ok .sh (.int (if (z : Int) < 12 then (z : Int) else 12)) = _
    refine int_congr ?_
    by_cases h : z < 12
    · rw [if_pos (by omega), Nat.min_eq_right (by omega)]
    · rw [if_neg (by omega), Nat.min_eq_left (by omega)]
      rfl
  have hq : 1 ≤ 120 / M := (Nat.le_div_iff_mul_le (by omega)).mpr (by omega)
  have hd : 120 / M * M ≤ 120 := Nat.div_mul_le_self 120 M
  refine ⟨min 12 (120 / M), by omega, by omega, Nat.le_trans (Nat.mul_le_mul_right M (Nat.min_le_right _ _)) hd, ?_⟩
  simp -implicitDefEqProofs only [execs, exec, ev, evs, evC, evP, execM, List.getElem?_cons_zero, List.getElem?_cons_succ, sl_sh, sl_ow, sl_sht, sl_owt, fin_f, fin_t, cons_sh, cons_fr, cons_bo, cons_ex, cons_ok_ex, lbind_ok, lbind_ex, bind_ok, bind_ex, cond_b, kp_sh, kp_fr, kp_ex, tru_bl, tru_ex, tru_lst, tru_str, ofB_some', ofV_some, ofO_some, nox_ok, chnR_eq c_le_int, cmpR_eq c_le_int, cmpR_eq c_lt_int, cmpR_eq c_ge_int, cmpR_eq c_gt_int, cmpR_eq c_eq_int, cmpR_eq c_ne_int, cmpR_eq c_eq_str, cmpR_eq c_ne_str, cmpR_eq c_in_sgn, cmpR_eq c_nin_sgn, cmpR_eq c_is_non, cmpR_eq c_isnot_non, b_len_lst, b_len_tup, b_len_cdt, b_len_str, b_all, b_int_int, b_int_bl, b_int_str, b_str_int, b_str_str, b_isinst, b_list_lst, b_list_dct, b_tuple_lst, strK_str, m_sw, fk_sh, fk_fr, fk_ex, fl_ok, fl_ex, lfl_ok, lfl_ex, fc_b, fc_ex, seq_nx, seq_rt, seq_ex, seq_bk, seq_ct, ofFl_rt, ofFl_nx, ofFl_ex, turn_nx, turn_ct, turn_bk, turn_rt, turn_ex, it_lst, it_tup, it_str, it_rng1, it_rng2, it_enum, cmpR_eq c_ne_bl, cmpR_eq c_eq_bl, List.length_cons, List.length_nil, Nat.zero_add, Nat.reduceAdd, Nat.reduceLeDiff, BEq.rfl, clr, slots, Option.map, tgB, List.set_cons_zero, List.set_cons_succ, calR, toSl, Bool.false_eq_true, if_false, if_true, rtlR, frzL, frz1, List.foldl_cons, List.foldl_nil, owOf, ownK, lstK, appP, owS, raiR, tupR, lstR, Bool.not_true, Bool.not_false, nobF, ofF, ty_int0, ty_int1, ty_int2, ty_int3, ty_int4, is23_int, ty_str0, ty_str1, ty_str2, ty_str3, ty_str4, is23_str, ty_lst0, ty_lst1, ty_lst2, ty_lst3, ty_lst4, is23_lst, ty_tup0, ty_tup1, ty_tup2, ty_tup3, ty_tup4, is23_tup, ty_bl0, ty_bl1, ty_bl2, ty_bl3, ty_bl4, is23_bl, ty_non0, ty_non1, ty_non2, ty_non3, ty_non4, is23_non, e1, e2]
def lwElt : IR := (.sub (.lst (.cons (.bin .mod (.sub (.loc 1) (.bin .add (.cst (.int 3)) (.loc 5))) (.loc 2)) (.cons (.bin .sub (.loc 2) (.cst (.int 1))) (.cons (.cst (.int 0)) .nil)))) (.bin .mod (.bin .fdiv (.sub (.loc 1) (.cst (.int 2))) (.bin .add (.loc 5) (.cst (.int 1)))) (.cst (.int 3))))
/-- a weight as drawn -/
def wgt (L : List Int) (M j : Nat) : Nat := match (L.getD 2 0 / ((j + 1 : Nat) : Int) % 3).toNat with
  | 0 => (L.getD (3 + j) 0 % (M : Int)).toNat
  | 1 => M - 1
  | _ => 0
theorem wgt_lt (L : List Int) (M j : Nat) (h : 2 ≤ M) : wgt L M j < M := by
  unfold wgt
  have h2 := Int.emod_lt_of_pos (L.getD (3 + j) 0) (show (0 : Int) < (M : Int) by omega)
  split
  · omega
  · omega
  · omega
theorem lwEl (X : EC) (L : List Int) (hL : L.length = 16) (M j : Nat) (h2 : 2 ≤ M) (hj : j < 12) (x0 x3 x4 : Sl) (rest : List Sl) :
    ev X false lwElt (x0 :: .ow (.lst (L.map .int)) :: .sh (.int (M : Int)) :: x3 :: x4 :: .sh (.int (j : Int)) :: rest) = .ok .sh (.int (wgt L M j : Int)) := by
  have hat : ∀ i : Nat, i < 16 → subP (.lst (L.map PV.int)) (.int (i : Int)) = some (.int (L.getD i 0)) := fun i hi => by
    rw [sub_lst, atP_nat _ _ (by simp [hL]; omega)]
    simp [List.getD, hL, hi]
  have a1 : binP .add (.int 3) (.int (j : Int)) = .ok .sh (.int ((3 + j : Nat) : Int)) := addx.trans (int_congr (by omega))
  have a2 := hat (3 + j) (by omega)
  have a3 : subP (.lst (L.map PV.int)) (.int 2) = some (.int (L.getD 2 0)) := hat 2 (by decide)
  have a4 : binP .mod (.int (L.getD (3 + j) 0)) (.int (M : Int)) = .ok .sh (.int (((L.getD (3 + j) 0 % (M : Int)).toNat : Nat) : Int)) := (modx (by simp -implicitDefEqProofs only [decide_eq_true_eq]; omega)).trans (int_congr (by have := Int.emod_nonneg (L.getD (3 + j) 0) (show (M : Int) ≠ 0 by omega); omega))
  have a5 : binP .sub (.int (M : Int)) (.int 1) = .ok .sh (.int ((M - 1 : Nat) : Int)) := subx.trans (int_congr (by omega))
  have a6 : binP .add (.int (j : Int)) (.int 1) = .ok .sh (.int ((j + 1 : Nat) : Int)) := addx.trans (int_congr (by omega))
  have a7 : binP .fdiv (.int (L.getD 2 0)) (.int ((j + 1 : Nat) : Int)) = .ok .sh (.int (L.getD 2 0 / ((j + 1 : Nat) : Int))) := divx (by simp -implicitDefEqProofs only [Bool.and_eq_true, decide_eq_true_eq]; omega)
  obtain ⟨k, hk, ek⟩ := emod_nat (L.getD 2 0 / ((j + 1 : Nat) : Int)) 3 (by decide)
  rw [show ((3 : Nat) : Int) = 3 from rfl] at ek
  have a8 : binP .mod (.int (L.getD 2 0 / ((j + 1 : Nat) : Int))) (.int 3) = .ok .sh (.int (k : Int)) := (modx (by decide)).trans (int_congr ek)
  have a9 : subP (.lst [.int (((L.getD (3 + j) 0 % (M : Int)).toNat : Nat) : Int), .int ((M - 1 : Nat) : Int), .int 0]) (.int (k : Int)) = some (.int (wgt L M j : Int)) := by
    unfold wgt
    rw [ek]
    match k, hk with
    | 0, _ => rfl
    | 1, _ => rfl
    | 2, _ => rfl
  unfold lwElt
  generalize L.map PV.int = S at a2 a3
  generalize wgt L M j = w at a9
  simp -implicitDefEqProofs only [execs, exec, ev, evs, evC, evP, execM, List.getElem?_cons_zero, List.getElem?_cons_succ, sl_sh, sl_ow, sl_sht, sl_owt, fin_f, fin_t, cons_sh, cons_fr, cons_bo, cons_ex, cons_ok_ex, lbind_ok, lbind_ex, bind_ok, bind_ex, cond_b, kp_sh, kp_fr, kp_ex, tru_bl, tru_ex, tru_lst, tru_str, ofB_some', ofV_some, ofO_some, nox_ok, chnR_eq c_le_int, cmpR_eq c_le_int, cmpR_eq c_lt_int, cmpR_eq c_ge_int, cmpR_eq c_gt_int, cmpR_eq c_eq_int, cmpR_eq c_ne_int, cmpR_eq c_eq_str, cmpR_eq c_ne_str, cmpR_eq c_in_sgn, cmpR_eq c_nin_sgn, cmpR_eq c_is_non, cmpR_eq c_isnot_non, b_len_lst, b_len_tup, b_len_cdt, b_len_str, b_all, b_int_int, b_int_bl, b_int_str, b_str_int, b_str_str, b_isinst, b_list_lst, b_list_dct, b_tuple_lst, strK_str, m_sw, fk_sh, fk_fr, fk_ex, fl_ok, fl_ex, lfl_ok, lfl_ex, fc_b, fc_ex, seq_nx, seq_rt, seq_ex, seq_bk, seq_ct, ofFl_rt, ofFl_nx, ofFl_ex, turn_nx, turn_ct, turn_bk, turn_rt, turn_ex, it_lst, it_tup, it_str, it_rng1, it_rng2, it_enum, cmpR_eq c_ne_bl, cmpR_eq c_eq_bl, List.length_cons, List.length_nil, Nat.zero_add, Nat.reduceAdd, Nat.reduceLeDiff, BEq.rfl, clr, slots, Option.map, tgB, List.set_cons_zero, List.set_cons_succ, calR, toSl, Bool.false_eq_true, if_false, if_true, rtlR, frzL, frz1, List.foldl_cons, List.foldl_nil, owOf, ownK, lstK, appP, owS, raiR, tupR, lstR, Bool.not_true, Bool.not_false, nobF, ofF, ty_int0, ty_int1, ty_int2, ty_int3, ty_int4, is23_int, ty_str0, ty_str1, ty_str2, ty_str3, ty_str4, is23_str, ty_lst0, ty_lst1, ty_lst2, ty_lst3, ty_lst4, is23_lst, ty_tup0, ty_tup1, ty_tup2, ty_tup3, ty_tup4, is23_tup, ty_bl0, ty_bl1, ty_bl2, ty_bl3, ty_bl4, is23_bl, ty_non0, ty_non1, ty_non2, ty_non3, ty_non4, is23_non, a1, a2, a3, a4, a5, a6, a7, a8, a9]
end Wk81
set_option Elab.async false
set_option linter.all false
set_option maxRecDepth 100000
set_option maxHeartbeats 2000000
namespace Wk81
open EV
def lwI : IR := (.or (.nt (.blt .isinst (.cons (.loc 8) (.cons (.cst (.ty 1)) .nil)))) (.or (.cmp .ne (.loc 8) (.loc 6)) (.or (.cmp .ne (.loc 7) (.tup (.cons (.loc 2) (.cons (.loc 4) .nil)))) (.or (.cmp .isnot (.sub (.loc 9) (.cst (.int 0))) (.cst (.bl true))) (.nt (.call 18 (.cons (.sub (.loc 9) (.cst (.int 1))) (.cons (.tup (.cons (.loc 2) (.cons (.loc 4) .nil))) .nil))))))))
def lwL1 : IR := (.lst (.cons (.cst (.str [])) (.cons (.cst (.str [10])) (.cons (.cst (.str [50, 32, 58, 32, 48])) (.cons (.cst (.str [50, 32, 58, 32, 50])) (.cons (.cst (.str [49, 32, 58, 32, 48])) (.cons (.cst (.str [48, 32, 58, 32, 48])) (.cons (.cst (.str [52, 49, 32, 58, 32, 49])) (.cons (.cst (.str [52, 48, 32, 58, 32, 51, 57, 32, 51, 57, 32, 51, 57])) (.cons (.cst (.str [52, 48, 32, 58, 32, 51, 57, 32, 51, 57, 32, 51, 57, 32, 51, 57])) (.cons (.cst (.str [49, 48, 32, 58, 32, 49, 32, 50, 32, 51, 32, 52, 32, 53, 32, 54, 32, 55, 32, 56, 32, 57, 32, 48, 32, 49, 32, 50])) (.cons (.cst (.str [57, 32, 58, 32, 49, 32, 50, 32, 51, 32, 52, 32, 53, 32, 54, 32, 55, 32, 56, 32, 48, 32, 49, 32, 50, 32, 51, 32, 52])) (.cons (.cst (.str [50, 32, 58])) (.cons (.cst (.str [50, 32, 49])) .nil))))))))))))))
def lwL2 : IR := (.lst (.cons (.cst (.str [50, 58, 32, 49])) (.cons (.cst (.str [50, 32, 58, 49])) (.cons (.cst (.str [58, 32, 49])) (.cons (.cst (.str [50, 32, 58, 32, 49, 32])) (.cons (.cst (.str [32, 50, 32, 58, 32, 49])) (.cons (.cst (.str [50, 32, 58, 32, 48, 49])) (.cons (.cst (.str [48, 50, 32, 58, 32, 49])) (.cons (.cst (.str [50, 32, 58, 32, 45, 49])) (.cons (.cst (.str [50, 32, 58, 32, 58, 32, 49])) (.cons (.cst (.str [50, 32, 58, 32, 49, 10, 50, 32, 58, 32, 49])) (.cons (.cst (.str [53, 48, 32, 58, 32, 49, 10, 50, 32, 58, 32, 49])) (.cons (.cst (.str [50, 32, 58, 32, 49, 10, 50])) (.cons (.cst (.str [50, 32, 58, 32, 97])) (.cons (.bin .add (.loc 6) (.cst (.str [10]))) (.cons (.bin .add (.bin .add (.loc 6) (.cst (.str [10]))) (.loc 6)) .nil))))))))))))))))
def lwL3 : IR := (.lst (.cons (.call 25 (.cons (.tup (.cons (.loc 2) (.cons (.bin .add (.loc 4) (.lst (.cons (.loc 2) .nil))) .nil))) .nil)) (.cons (.call 25 (.cons (.tup (.cons (.loc 2) (.cons (.bin .mul (.loc 4) (.cst (.int 13))) .nil))) .nil)) (.cons (.call 25 (.cons (.tup (.cons (.bin .sub (.bin .pow (.cst (.int 10)) (.cst (.int 18))) (.cst (.int 1))) (.cons (.lst (.cons (.bin .sub (.bin .pow (.cst (.int 10)) (.cst (.int 18))) (.cst (.int 2))) .nil)) .nil))) .nil)) (.cons (.call 25 (.cons (.tup (.cons (.loc 2) (.cons (.bin .add (.loc 4) (.lst (.cons (.bin .pow (.cst (.int 10)) (.cst (.int 18))) .nil))) .nil))) .nil)) .nil)))))
theorem lwSplit : b26 = (.cons (.set 1 (.call 16 (.cons (.loc 0) (.cons (.cst (.int 0)) (.cons (.cst (.int 16)) .nil)))))
 (.cons (.set 2 lwM2)
 (.cons (.set 3 (.blt .min (.cons (.cst (.int 12)) (.cons (.bin .fdiv (.cst (.int 120)) (.loc 2)) .nil))))
 (.cons (.set 4 (.lc (.v 5) .rng (.cons (.bin .add (.cst (.int 1)) (.bin .mod (.sub (.loc 1) (.cst (.int 15))) (.loc 3))) .nil) .nil lwElt))
 (.cons (.frz [2, 4] (.set 6 (.call 25 (.cons (.tup (.cons (.loc 2) (.cons (.loc 4) .nil))) .nil))))
 (.cons (.frz [2] (.set 7 (.tup (.cons (.loc 2) (.cons (.blt .list (.cons (.loc 4) .nil)) .nil)))))
 (.cons (.frz [7] (.set 8 (.call 12 (.cons (.loc 7) .nil))))
 (.cons (.frz [6] (.set 9 (.call 22 (.cons (.cst (.int 0)) (.cons (.loc 6) .nil)))))
 (.cons (.frz [2, 4] (.ifs lwI (.cons (.ret (.cst (.bl false)))
 .nil) .nil))
 (.cons (.set 10 lwL1)
 (.cons (.set 10 (.bin .add (.loc 10) lwL2))
 (.cons (.frz [2] (.for (.v 11) .seq (.cons (.bin .add (.loc 10) lwL3) .nil)
 lwO [11]))
 (.cons (.for (.v 12) .rng (.cons (.cst (.int 20)) .nil)
 lwT [12, 13, 14])
 (.cons (.ret (.cst (.bl true)))
 .nil)))))))))))))) := rfl
theorem w_ne (p : Nat × List Nat) : cmpP .ne (wV p) (wV p) = some false := by
  obtain ⟨a, b, c⟩ := row_facts p.2
  have hd : max 0 (max (dep (encL p.2)) 0) + 1 ≤ 32 := by omega
  unfold wV
  simp -implicitDefEqProofs only [cmpP, plain, plains, dep, deps, eqv, eqvs, a, c, hd, decide_true, Bool.and_self, BEq.rfl, Bool.not_true, if_true]
theorem mulLw {α : Type} (f : α → PV) (xs : List α) (n : Nat) (h1 : n ≤ 1000) (h : xs.length ≤ 1000) : binP .mul (.lst (xs.map f)) (.int (n : Int)) = .ok .fr (.lst ((List.replicate n xs).flatten.map f)) := by
  show (if 0 ≤ (n : Int) && (n : Int) ≤ 1000000 && decide ((xs.map f).length * (n : Int).toNat ≤ LL) then Rs.ok .fr (.lst (List.replicate (n : Int).toNat (xs.map f)).flatten) else .bad) = _
  have hLL : (LL : Nat) = 16777216 := rfl
  have hm : xs.length * n ≤ 1000 * 1000 := Nat.mul_le_mul h h1
  rw [if_pos (by simp -implicitDefEqProofs only [Bool.and_eq_true, decide_eq_true_eq, Int.toNat_natCast, List.length_map]; omega), Int.toNat_natCast, List.map_flatten, List.map_replicate]
theorem txt_textW {X : EC} {env : Env} (hX : ∀ p, goodW p → X.call 25 [wV p] = .ok .sh (.str (tW p))) {e : IR} {p : Nat × List Nat} (he : ev X false e env = .ok .sh (wV p)) (hg : goodW p) : isTxt (ev X false (.call 25 (.cons e .nil)) env) 3240 := by
  refine ⟨tW p, ?_, tW_len p hg⟩
  simp -implicitDefEqProofs only [execs, exec, ev, evs, evC, evP, execM, List.getElem?_cons_zero, List.getElem?_cons_succ, sl_sh, sl_ow, sl_sht, sl_owt, fin_f, fin_t, cons_sh, cons_fr, cons_bo, cons_ex, cons_ok_ex, lbind_ok, lbind_ex, bind_ok, bind_ex, cond_b, kp_sh, kp_fr, kp_ex, tru_bl, tru_ex, tru_lst, tru_str, ofB_some', ofV_some, ofO_some, nox_ok, chnR_eq c_le_int, cmpR_eq c_le_int, cmpR_eq c_lt_int, cmpR_eq c_ge_int, cmpR_eq c_gt_int, cmpR_eq c_eq_int, cmpR_eq c_ne_int, cmpR_eq c_eq_str, cmpR_eq c_ne_str, cmpR_eq c_in_sgn, cmpR_eq c_nin_sgn, cmpR_eq c_is_non, cmpR_eq c_isnot_non, b_len_lst, b_len_tup, b_len_cdt, b_len_str, b_all, b_int_int, b_int_bl, b_int_str, b_str_int, b_str_str, b_isinst, b_list_lst, b_list_dct, b_tuple_lst, strK_str, m_sw, fk_sh, fk_fr, fk_ex, fl_ok, fl_ex, lfl_ok, lfl_ex, fc_b, fc_ex, seq_nx, seq_rt, seq_ex, seq_bk, seq_ct, ofFl_rt, ofFl_nx, ofFl_ex, turn_nx, turn_ct, turn_bk, turn_rt, turn_ex, it_lst, it_tup, it_str, it_rng1, it_rng2, it_enum, cmpR_eq c_ne_bl, cmpR_eq c_eq_bl, List.length_cons, List.length_nil, Nat.zero_add, Nat.reduceAdd, Nat.reduceLeDiff, BEq.rfl, clr, slots, Option.map, tgB, List.set_cons_zero, List.set_cons_succ, calR, toSl, Bool.false_eq_true, if_false, if_true, rtlR, frzL, frz1, List.foldl_cons, List.foldl_nil, owOf, ownK, lstK, appP, owS, raiR, tupR, lstR, Bool.not_true, Bool.not_false, nobF, ofF, ty_int0, ty_int1, ty_int2, ty_int3, ty_int4, is23_int, ty_str0, ty_str1, ty_str2, ty_str3, ty_str4, is23_str, ty_lst0, ty_lst1, ty_lst2, ty_lst3, ty_lst4, is23_lst, ty_tup0, ty_tup1, ty_tup2, ty_tup3, ty_tup4, is23_tup, ty_bl0, ty_bl1, ty_bl2, ty_bl3, ty_bl4, is23_bl, ty_non0, ty_non1, ty_non2, ty_non3, ty_non4, is23_non, he, hX p hg]
theorem ev_w {X : EC} {env : Env} {a b : IR} {M : Nat} {r : List Nat} (h1 : ev X false a env = .ok .sh (.int (M : Int))) (h2 : ev X false b env = .ok .fr (encL r)) : ev X false (.tup (.cons a (.cons b .nil))) env = .ok .sh (wV (M, r)) := by
  simp -implicitDefEqProofs only [execs, exec, ev, evs, evC, evP, execM, List.getElem?_cons_zero, List.getElem?_cons_succ, sl_sh, sl_ow, sl_sht, sl_owt, fin_f, fin_t, cons_sh, cons_fr, cons_bo, cons_ex, cons_ok_ex, lbind_ok, lbind_ex, bind_ok, bind_ex, cond_b, kp_sh, kp_fr, kp_ex, tru_bl, tru_ex, tru_lst, tru_str, ofB_some', ofV_some, ofO_some, nox_ok, chnR_eq c_le_int, cmpR_eq c_le_int, cmpR_eq c_lt_int, cmpR_eq c_ge_int, cmpR_eq c_gt_int, cmpR_eq c_eq_int, cmpR_eq c_ne_int, cmpR_eq c_eq_str, cmpR_eq c_ne_str, cmpR_eq c_in_sgn, cmpR_eq c_nin_sgn, cmpR_eq c_is_non, cmpR_eq c_isnot_non, b_len_lst, b_len_tup, b_len_cdt, b_len_str, b_all, b_int_int, b_int_bl, b_int_str, b_str_int, b_str_str, b_isinst, b_list_lst, b_list_dct, b_tuple_lst, strK_str, m_sw, fk_sh, fk_fr, fk_ex, fl_ok, fl_ex, lfl_ok, lfl_ex, fc_b, fc_ex, seq_nx, seq_rt, seq_ex, seq_bk, seq_ct, ofFl_rt, ofFl_nx, ofFl_ex, turn_nx, turn_ct, turn_bk, turn_rt, turn_ex, it_lst, it_tup, it_str, it_rng1, it_rng2, it_enum, cmpR_eq c_ne_bl, cmpR_eq c_eq_bl, List.length_cons, List.length_nil, Nat.zero_add, Nat.reduceAdd, Nat.reduceLeDiff, BEq.rfl, clr, slots, Option.map, tgB, List.set_cons_zero, List.set_cons_succ, calR, toSl, Bool.false_eq_true, if_false, if_true, rtlR, frzL, frz1, List.foldl_cons, List.foldl_nil, owOf, ownK, lstK, appP, owS, raiR, tupR, lstR, Bool.not_true, Bool.not_false, nobF, ofF, ty_int0, ty_int1, ty_int2, ty_int3, ty_int4, is23_int, ty_str0, ty_str1, ty_str2, ty_str3, ty_str4, is23_str, ty_lst0, ty_lst1, ty_lst2, ty_lst3, ty_lst4, is23_lst, ty_tup0, ty_tup1, ty_tup2, ty_tup3, ty_tup4, is23_tup, ty_bl0, ty_bl1, ty_bl2, ty_bl3, ty_bl4, is23_bl, ty_non0, ty_non1, ty_non2, ty_non3, ty_non4, is23_non, h1, h2]
  rfl
theorem lwL3T (X : EC) (hX : ∀ p, goodW p → X.call 25 [wV p] = .ok .sh (.str (tW p))) (M : Nat) (hM : M ≤ 40) (r : List Nat) (hr : r.length ≤ 12) (hn : ∀ n ∈ r, n < M) (env : Env) (h2 : env[2]? = some (.sh (.int (M : Int)))) (h4 : env[4]? = some (.sh (encL r))) :
    isTxw (ev X false lwL3 env) 20000 := by
  have hLL : (LL : Nat) = 16777216 := rfl
  have hn' : ∀ n ∈ r, n < 10 ^ 19 := fun n h => by have := hn n h; omega
  have hadd : ∀ q : Nat, binP .add (encL r) (.lst [.int (q : Int)]) = .ok .fr (encL (r ++ [q])) := fun q => by
    unfold encL
    rw [addL (by simp -implicitDefEqProofs only [List.length_map, List.length_cons, List.length_nil]; omega), List.map_append]
    rfl
  have hgood : ∀ q : Nat, q < 10 ^ 19 → goodW (M, r ++ [q]) := fun q hq => ⟨by simp only; omega, by simp; omega, fun n h => by
    rcases List.mem_append.mp h with h | h
    · exact hn' n h
    · simp -implicitDefEqProofs only [List.mem_singleton] at h; omega⟩
  have p18 : binP .pow (.int 10) (.int 18) = .ok .sh (.int 1000000000000000000) := by simp [binP, small]
  unfold lwL3
  refine txw_lst (k := 4) (n := 3240) ?_ (by decide) (by decide)
  refine txl_cons (txt_textW hX (ev_w (M := M) (r := r ++ [M]) (by simp -implicitDefEqProofs only [execs, exec, ev, evs, evC, evP, execM, List.getElem?_cons_zero, List.getElem?_cons_succ, sl_sh, sl_ow, sl_sht, sl_owt, fin_f, fin_t, cons_sh, cons_fr, cons_bo, cons_ex, cons_ok_ex, lbind_ok, lbind_ex, bind_ok, bind_ex, cond_b, kp_sh, kp_fr, kp_ex, tru_bl, tru_ex, tru_lst, tru_str, ofB_some', ofV_some, ofO_some, nox_ok, chnR_eq c_le_int, cmpR_eq c_le_int, cmpR_eq c_lt_int, cmpR_eq c_ge_int, cmpR_eq c_gt_int, cmpR_eq c_eq_int, cmpR_eq c_ne_int, cmpR_eq c_eq_str, cmpR_eq c_ne_str, cmpR_eq c_in_sgn, cmpR_eq c_nin_sgn, cmpR_eq c_is_non, cmpR_eq c_isnot_non, b_len_lst, b_len_tup, b_len_cdt, b_len_str, b_all, b_int_int, b_int_bl, b_int_str, b_str_int, b_str_str, b_isinst, b_list_lst, b_list_dct, b_tuple_lst, strK_str, m_sw, fk_sh, fk_fr, fk_ex, fl_ok, fl_ex, lfl_ok, lfl_ex, fc_b, fc_ex, seq_nx, seq_rt, seq_ex, seq_bk, seq_ct, ofFl_rt, ofFl_nx, ofFl_ex, turn_nx, turn_ct, turn_bk, turn_rt, turn_ex, it_lst, it_tup, it_str, it_rng1, it_rng2, it_enum, cmpR_eq c_ne_bl, cmpR_eq c_eq_bl, List.length_cons, List.length_nil, Nat.zero_add, Nat.reduceAdd, Nat.reduceLeDiff, BEq.rfl, clr, slots, Option.map, tgB, List.set_cons_zero, List.set_cons_succ, calR, toSl, Bool.false_eq_true, if_false, if_true, rtlR, frzL, frz1, List.foldl_cons, List.foldl_nil, owOf, ownK, lstK, appP, owS, raiR, tupR, lstR, Bool.not_true, Bool.not_false, nobF, ofF, ty_int0, ty_int1, ty_int2, ty_int3, ty_int4, is23_int, ty_str0, ty_str1, ty_str2, ty_str3, ty_str4, is23_str, ty_lst0, ty_lst1, ty_lst2, ty_lst3, ty_lst4, is23_lst, ty_tup0, ty_tup1, ty_tup2, ty_tup3, ty_tup4, is23_tup, ty_bl0, ty_bl1, ty_bl2, ty_bl3, ty_bl4, is23_bl, ty_non0, ty_non1, ty_non2, ty_non3, ty_non4, is23_non, h2]) ?_) (hgood M (by omega))) ?_
  · have e := hadd M
    generalize encL (r ++ [M]) = q at e
    generalize encL r = er at h4 e
    simp -implicitDefEqProofs only [execs, exec, ev, evs, evC, evP, execM, List.getElem?_cons_zero, List.getElem?_cons_succ, sl_sh, sl_ow, sl_sht, sl_owt, fin_f, fin_t, cons_sh, cons_fr, cons_bo, cons_ex, cons_ok_ex, lbind_ok, lbind_ex, bind_ok, bind_ex, cond_b, kp_sh, kp_fr, kp_ex, tru_bl, tru_ex, tru_lst, tru_str, ofB_some', ofV_some, ofO_some, nox_ok, chnR_eq c_le_int, cmpR_eq c_le_int, cmpR_eq c_lt_int, cmpR_eq c_ge_int, cmpR_eq c_gt_int, cmpR_eq c_eq_int, cmpR_eq c_ne_int, cmpR_eq c_eq_str, cmpR_eq c_ne_str, cmpR_eq c_in_sgn, cmpR_eq c_nin_sgn, cmpR_eq c_is_non, cmpR_eq c_isnot_non, b_len_lst, b_len_tup, b_len_cdt, b_len_str, b_all, b_int_int, b_int_bl, b_int_str, b_str_int, b_str_str, b_isinst, b_list_lst, b_list_dct, b_tuple_lst, strK_str, m_sw, fk_sh, fk_fr, fk_ex, fl_ok, fl_ex, lfl_ok, lfl_ex, fc_b, fc_ex, seq_nx, seq_rt, seq_ex, seq_bk, seq_ct, ofFl_rt, ofFl_nx, ofFl_ex, turn_nx, turn_ct, turn_bk, turn_rt, turn_ex, it_lst, it_tup, it_str, it_rng1, it_rng2, it_enum, cmpR_eq c_ne_bl, cmpR_eq c_eq_bl, List.length_cons, List.length_nil, Nat.zero_add, Nat.reduceAdd, Nat.reduceLeDiff, BEq.rfl, clr, slots, Option.map, tgB, List.set_cons_zero, List.set_cons_succ, calR, toSl, Bool.false_eq_true, if_false, if_true, rtlR, frzL, frz1, List.foldl_cons, List.foldl_nil, owOf, ownK, lstK, appP, owS, raiR, tupR, lstR, Bool.not_true, Bool.not_false, nobF, ofF, ty_int0, ty_int1, ty_int2, ty_int3, ty_int4, is23_int, ty_str0, ty_str1, ty_str2, ty_str3, ty_str4, is23_str, ty_lst0, ty_lst1, ty_lst2, ty_lst3, ty_lst4, is23_lst, ty_tup0, ty_tup1, ty_tup2, ty_tup3, ty_tup4, is23_tup, ty_bl0, ty_bl1, ty_bl2, ty_bl3, ty_bl4, is23_bl, ty_non0, ty_non1, ty_non2, ty_non3, ty_non4, is23_non, h4, h2, e]
  refine txl_cons (txt_textW hX (ev_w (M := M) (r := (List.replicate 13 r).flatten) (by simp -implicitDefEqProofs only [execs, exec, ev, evs, evC, evP, execM, List.getElem?_cons_zero, List.getElem?_cons_succ, sl_sh, sl_ow, sl_sht, sl_owt, fin_f, fin_t, cons_sh, cons_fr, cons_bo, cons_ex, cons_ok_ex, lbind_ok, lbind_ex, bind_ok, bind_ex, cond_b, kp_sh, kp_fr, kp_ex, tru_bl, tru_ex, tru_lst, tru_str, ofB_some', ofV_some, ofO_some, nox_ok, chnR_eq c_le_int, cmpR_eq c_le_int, cmpR_eq c_lt_int, cmpR_eq c_ge_int, cmpR_eq c_gt_int, cmpR_eq c_eq_int, cmpR_eq c_ne_int, cmpR_eq c_eq_str, cmpR_eq c_ne_str, cmpR_eq c_in_sgn, cmpR_eq c_nin_sgn, cmpR_eq c_is_non, cmpR_eq c_isnot_non, b_len_lst, b_len_tup, b_len_cdt, b_len_str, b_all, b_int_int, b_int_bl, b_int_str, b_str_int, b_str_str, b_isinst, b_list_lst, b_list_dct, b_tuple_lst, strK_str, m_sw, fk_sh, fk_fr, fk_ex, fl_ok, fl_ex, lfl_ok, lfl_ex, fc_b, fc_ex, seq_nx, seq_rt, seq_ex, seq_bk, seq_ct, ofFl_rt, ofFl_nx, ofFl_ex, turn_nx, turn_ct, turn_bk, turn_rt, turn_ex, it_lst, it_tup, it_str, it_rng1, it_rng2, it_enum, cmpR_eq c_ne_bl, cmpR_eq c_eq_bl, List.length_cons, List.length_nil, Nat.zero_add, Nat.reduceAdd, Nat.reduceLeDiff, BEq.rfl, clr, slots, Option.map, tgB, List.set_cons_zero, List.set_cons_succ, calR, toSl, Bool.false_eq_true, if_false, if_true, rtlR, frzL, frz1, List.foldl_cons, List.foldl_nil, owOf, ownK, lstK, appP, owS, raiR, tupR, lstR, Bool.not_true, Bool.not_false, nobF, ofF, ty_int0, ty_int1, ty_int2, ty_int3, ty_int4, is23_int, ty_str0, ty_str1, ty_str2, ty_str3, ty_str4, is23_str, ty_lst0, ty_lst1, ty_lst2, ty_lst3, ty_lst4, is23_lst, ty_tup0, ty_tup1, ty_tup2, ty_tup3, ty_tup4, is23_tup, ty_bl0, ty_bl1, ty_bl2, ty_bl3, ty_bl4, is23_bl, ty_non0, ty_non1, ty_non2, ty_non3, ty_non4, is23_non, h2]) ?_) ⟨by simp only; omega, by simp [List.length_flatten]; omega, fun n h => by
      obtain ⟨l, hl, hcl⟩ := List.mem_flatten.mp h
      have := List.eq_of_mem_replicate hl
      subst this
      exact hn' n hcl⟩) ?_
  · have e : binP .mul (encL r) (.int 13) = .ok .fr (encL (List.replicate 13 r).flatten) := mulLw (fun (n : Nat) => PV.int (n : Int)) r 13 (by decide) (by omega)
    generalize encL (List.replicate 13 r).flatten = q at e
    generalize encL r = er at h4 e
    simp -implicitDefEqProofs only [execs, exec, ev, evs, evC, evP, execM, List.getElem?_cons_zero, List.getElem?_cons_succ, sl_sh, sl_ow, sl_sht, sl_owt, fin_f, fin_t, cons_sh, cons_fr, cons_bo, cons_ex, cons_ok_ex, lbind_ok, lbind_ex, bind_ok, bind_ex, cond_b, kp_sh, kp_fr, kp_ex, tru_bl, tru_ex, tru_lst, tru_str, ofB_some', ofV_some, ofO_some, nox_ok, chnR_eq c_le_int, cmpR_eq c_le_int, cmpR_eq c_lt_int, cmpR_eq c_ge_int, cmpR_eq c_gt_int, cmpR_eq c_eq_int, cmpR_eq c_ne_int, cmpR_eq c_eq_str, cmpR_eq c_ne_str, cmpR_eq c_in_sgn, cmpR_eq c_nin_sgn, cmpR_eq c_is_non, cmpR_eq c_isnot_non, b_len_lst, b_len_tup, b_len_cdt, b_len_str, b_all, b_int_int, b_int_bl, b_int_str, b_str_int, b_str_str, b_isinst, b_list_lst, b_list_dct, b_tuple_lst, strK_str, m_sw, fk_sh, fk_fr, fk_ex, fl_ok, fl_ex, lfl_ok, lfl_ex, fc_b, fc_ex, seq_nx, seq_rt, seq_ex, seq_bk, seq_ct, ofFl_rt, ofFl_nx, ofFl_ex, turn_nx, turn_ct, turn_bk, turn_rt, turn_ex, it_lst, it_tup, it_str, it_rng1, it_rng2, it_enum, cmpR_eq c_ne_bl, cmpR_eq c_eq_bl, List.length_cons, List.length_nil, Nat.zero_add, Nat.reduceAdd, Nat.reduceLeDiff, BEq.rfl, clr, slots, Option.map, tgB, List.set_cons_zero, List.set_cons_succ, calR, toSl, Bool.false_eq_true, if_false, if_true, rtlR, frzL, frz1, List.foldl_cons, List.foldl_nil, owOf, ownK, lstK, appP, owS, raiR, tupR, lstR, Bool.not_true, Bool.not_false, nobF, ofF, ty_int0, ty_int1, ty_int2, ty_int3, ty_int4, is23_int, ty_str0, ty_str1, ty_str2, ty_str3, ty_str4, is23_str, ty_lst0, ty_lst1, ty_lst2, ty_lst3, ty_lst4, is23_lst, ty_tup0, ty_tup1, ty_tup2, ty_tup3, ty_tup4, is23_tup, ty_bl0, ty_bl1, ty_bl2, ty_bl3, ty_bl4, is23_bl, ty_non0, ty_non1, ty_non2, ty_non3, ty_non4, is23_non, h4, e]
  refine txl_cons (txt_textW hX (ev_w (M := 999999999999999999) (r := [999999999999999998]) ?_ ?_) ⟨by decide, by decide, by decide⟩) ?_
  · have e : binP .sub (.int 1000000000000000000) (.int 1) = .ok .sh (.int 999999999999999999) := rfl
    simp -implicitDefEqProofs only [execs, exec, ev, evs, evC, evP, execM, List.getElem?_cons_zero, List.getElem?_cons_succ, sl_sh, sl_ow, sl_sht, sl_owt, fin_f, fin_t, cons_sh, cons_fr, cons_bo, cons_ex, cons_ok_ex, lbind_ok, lbind_ex, bind_ok, bind_ex, cond_b, kp_sh, kp_fr, kp_ex, tru_bl, tru_ex, tru_lst, tru_str, ofB_some', ofV_some, ofO_some, nox_ok, chnR_eq c_le_int, cmpR_eq c_le_int, cmpR_eq c_lt_int, cmpR_eq c_ge_int, cmpR_eq c_gt_int, cmpR_eq c_eq_int, cmpR_eq c_ne_int, cmpR_eq c_eq_str, cmpR_eq c_ne_str, cmpR_eq c_in_sgn, cmpR_eq c_nin_sgn, cmpR_eq c_is_non, cmpR_eq c_isnot_non, b_len_lst, b_len_tup, b_len_cdt, b_len_str, b_all, b_int_int, b_int_bl, b_int_str, b_str_int, b_str_str, b_isinst, b_list_lst, b_list_dct, b_tuple_lst, strK_str, m_sw, fk_sh, fk_fr, fk_ex, fl_ok, fl_ex, lfl_ok, lfl_ex, fc_b, fc_ex, seq_nx, seq_rt, seq_ex, seq_bk, seq_ct, ofFl_rt, ofFl_nx, ofFl_ex, turn_nx, turn_ct, turn_bk, turn_rt, turn_ex, it_lst, it_tup, it_str, it_rng1, it_rng2, it_enum, cmpR_eq c_ne_bl, cmpR_eq c_eq_bl, List.length_cons, List.length_nil, Nat.zero_add, Nat.reduceAdd, Nat.reduceLeDiff, BEq.rfl, clr, slots, Option.map, tgB, List.set_cons_zero, List.set_cons_succ, calR, toSl, Bool.false_eq_true, if_false, if_true, rtlR, frzL, frz1, List.foldl_cons, List.foldl_nil, owOf, ownK, lstK, appP, owS, raiR, tupR, lstR, Bool.not_true, Bool.not_false, nobF, ofF, ty_int0, ty_int1, ty_int2, ty_int3, ty_int4, is23_int, ty_str0, ty_str1, ty_str2, ty_str3, ty_str4, is23_str, ty_lst0, ty_lst1, ty_lst2, ty_lst3, ty_lst4, is23_lst, ty_tup0, ty_tup1, ty_tup2, ty_tup3, ty_tup4, is23_tup, ty_bl0, ty_bl1, ty_bl2, ty_bl3, ty_bl4, is23_bl, ty_non0, ty_non1, ty_non2, ty_non3, ty_non4, is23_non, p18, e]
    try rfl
  · have e : binP .sub (.int 1000000000000000000) (.int 2) = .ok .sh (.int 999999999999999998) := rfl
    simp -implicitDefEqProofs only [execs, exec, ev, evs, evC, evP, execM, List.getElem?_cons_zero, List.getElem?_cons_succ, sl_sh, sl_ow, sl_sht, sl_owt, fin_f, fin_t, cons_sh, cons_fr, cons_bo, cons_ex, cons_ok_ex, lbind_ok, lbind_ex, bind_ok, bind_ex, cond_b, kp_sh, kp_fr, kp_ex, tru_bl, tru_ex, tru_lst, tru_str, ofB_some', ofV_some, ofO_some, nox_ok, chnR_eq c_le_int, cmpR_eq c_le_int, cmpR_eq c_lt_int, cmpR_eq c_ge_int, cmpR_eq c_gt_int, cmpR_eq c_eq_int, cmpR_eq c_ne_int, cmpR_eq c_eq_str, cmpR_eq c_ne_str, cmpR_eq c_in_sgn, cmpR_eq c_nin_sgn, cmpR_eq c_is_non, cmpR_eq c_isnot_non, b_len_lst, b_len_tup, b_len_cdt, b_len_str, b_all, b_int_int, b_int_bl, b_int_str, b_str_int, b_str_str, b_isinst, b_list_lst, b_list_dct, b_tuple_lst, strK_str, m_sw, fk_sh, fk_fr, fk_ex, fl_ok, fl_ex, lfl_ok, lfl_ex, fc_b, fc_ex, seq_nx, seq_rt, seq_ex, seq_bk, seq_ct, ofFl_rt, ofFl_nx, ofFl_ex, turn_nx, turn_ct, turn_bk, turn_rt, turn_ex, it_lst, it_tup, it_str, it_rng1, it_rng2, it_enum, cmpR_eq c_ne_bl, cmpR_eq c_eq_bl, List.length_cons, List.length_nil, Nat.zero_add, Nat.reduceAdd, Nat.reduceLeDiff, BEq.rfl, clr, slots, Option.map, tgB, List.set_cons_zero, List.set_cons_succ, calR, toSl, Bool.false_eq_true, if_false, if_true, rtlR, frzL, frz1, List.foldl_cons, List.foldl_nil, owOf, ownK, lstK, appP, owS, raiR, tupR, lstR, Bool.not_true, Bool.not_false, nobF, ofF, ty_int0, ty_int1, ty_int2, ty_int3, ty_int4, is23_int, ty_str0, ty_str1, ty_str2, ty_str3, ty_str4, is23_str, ty_lst0, ty_lst1, ty_lst2, ty_lst3, ty_lst4, is23_lst, ty_tup0, ty_tup1, ty_tup2, ty_tup3, ty_tup4, is23_tup, ty_bl0, ty_bl1, ty_bl2, ty_bl3, ty_bl4, is23_bl, ty_non0, ty_non1, ty_non2, ty_non3, ty_non4, is23_non, p18, e]
    rfl
  refine txl_cons (txt_textW hX (ev_w (M := M) (r := r ++ [1000000000000000000]) (by simp -implicitDefEqProofs only [execs, exec, ev, evs, evC, evP, execM, List.getElem?_cons_zero, List.getElem?_cons_succ, sl_sh, sl_ow, sl_sht, sl_owt, fin_f, fin_t, cons_sh, cons_fr, cons_bo, cons_ex, cons_ok_ex, lbind_ok, lbind_ex, bind_ok, bind_ex, cond_b, kp_sh, kp_fr, kp_ex, tru_bl, tru_ex, tru_lst, tru_str, ofB_some', ofV_some, ofO_some, nox_ok, chnR_eq c_le_int, cmpR_eq c_le_int, cmpR_eq c_lt_int, cmpR_eq c_ge_int, cmpR_eq c_gt_int, cmpR_eq c_eq_int, cmpR_eq c_ne_int, cmpR_eq c_eq_str, cmpR_eq c_ne_str, cmpR_eq c_in_sgn, cmpR_eq c_nin_sgn, cmpR_eq c_is_non, cmpR_eq c_isnot_non, b_len_lst, b_len_tup, b_len_cdt, b_len_str, b_all, b_int_int, b_int_bl, b_int_str, b_str_int, b_str_str, b_isinst, b_list_lst, b_list_dct, b_tuple_lst, strK_str, m_sw, fk_sh, fk_fr, fk_ex, fl_ok, fl_ex, lfl_ok, lfl_ex, fc_b, fc_ex, seq_nx, seq_rt, seq_ex, seq_bk, seq_ct, ofFl_rt, ofFl_nx, ofFl_ex, turn_nx, turn_ct, turn_bk, turn_rt, turn_ex, it_lst, it_tup, it_str, it_rng1, it_rng2, it_enum, cmpR_eq c_ne_bl, cmpR_eq c_eq_bl, List.length_cons, List.length_nil, Nat.zero_add, Nat.reduceAdd, Nat.reduceLeDiff, BEq.rfl, clr, slots, Option.map, tgB, List.set_cons_zero, List.set_cons_succ, calR, toSl, Bool.false_eq_true, if_false, if_true, rtlR, frzL, frz1, List.foldl_cons, List.foldl_nil, owOf, ownK, lstK, appP, owS, raiR, tupR, lstR, Bool.not_true, Bool.not_false, nobF, ofF, ty_int0, ty_int1, ty_int2, ty_int3, ty_int4, is23_int, ty_str0, ty_str1, ty_str2, ty_str3, ty_str4, is23_str, ty_lst0, ty_lst1, ty_lst2, ty_lst3, ty_lst4, is23_lst, ty_tup0, ty_tup1, ty_tup2, ty_tup3, ty_tup4, is23_tup, ty_bl0, ty_bl1, ty_bl2, ty_bl3, ty_bl4, is23_bl, ty_non0, ty_non1, ty_non2, ty_non3, ty_non4, is23_non, h2]) ?_) (hgood _ (by decide))) txl_nil
  · have e : binP .add (encL r) (.lst [.int 1000000000000000000]) = .ok .fr (encL (r ++ [1000000000000000000])) := hadd 1000000000000000000
    generalize encL (r ++ [1000000000000000000]) = q at e
    generalize encL r = er at h4 e
    simp -implicitDefEqProofs only [execs, exec, ev, evs, evC, evP, execM, List.getElem?_cons_zero, List.getElem?_cons_succ, sl_sh, sl_ow, sl_sht, sl_owt, fin_f, fin_t, cons_sh, cons_fr, cons_bo, cons_ex, cons_ok_ex, lbind_ok, lbind_ex, bind_ok, bind_ex, cond_b, kp_sh, kp_fr, kp_ex, tru_bl, tru_ex, tru_lst, tru_str, ofB_some', ofV_some, ofO_some, nox_ok, chnR_eq c_le_int, cmpR_eq c_le_int, cmpR_eq c_lt_int, cmpR_eq c_ge_int, cmpR_eq c_gt_int, cmpR_eq c_eq_int, cmpR_eq c_ne_int, cmpR_eq c_eq_str, cmpR_eq c_ne_str, cmpR_eq c_in_sgn, cmpR_eq c_nin_sgn, cmpR_eq c_is_non, cmpR_eq c_isnot_non, b_len_lst, b_len_tup, b_len_cdt, b_len_str, b_all, b_int_int, b_int_bl, b_int_str, b_str_int, b_str_str, b_isinst, b_list_lst, b_list_dct, b_tuple_lst, strK_str, m_sw, fk_sh, fk_fr, fk_ex, fl_ok, fl_ex, lfl_ok, lfl_ex, fc_b, fc_ex, seq_nx, seq_rt, seq_ex, seq_bk, seq_ct, ofFl_rt, ofFl_nx, ofFl_ex, turn_nx, turn_ct, turn_bk, turn_rt, turn_ex, it_lst, it_tup, it_str, it_rng1, it_rng2, it_enum, cmpR_eq c_ne_bl, cmpR_eq c_eq_bl, List.length_cons, List.length_nil, Nat.zero_add, Nat.reduceAdd, Nat.reduceLeDiff, BEq.rfl, clr, slots, Option.map, tgB, List.set_cons_zero, List.set_cons_succ, calR, toSl, Bool.false_eq_true, if_false, if_true, rtlR, frzL, frz1, List.foldl_cons, List.foldl_nil, owOf, ownK, lstK, appP, owS, raiR, tupR, lstR, Bool.not_true, Bool.not_false, nobF, ofF, ty_int0, ty_int1, ty_int2, ty_int3, ty_int4, is23_int, ty_str0, ty_str1, ty_str2, ty_str3, ty_str4, is23_str, ty_lst0, ty_lst1, ty_lst2, ty_lst3, ty_lst4, is23_lst, ty_tup0, ty_tup1, ty_tup2, ty_tup3, ty_tup4, is23_tup, ty_bl0, ty_bl1, ty_bl2, ty_bl3, ty_bl4, is23_bl, ty_non0, ty_non1, ty_non2, ty_non3, ty_non4, is23_non, h4, p18, e]
end Wk81
set_option Elab.async false
set_option linter.all false
set_option maxRecDepth 100000
set_option maxHeartbeats 2000000
namespace Wk81
open EV
theorem set_sh {X : EC} {env : Env} {i : Nat} {e : IR} {v : PV} (h : ev X false e env = .ok .sh v) : exec X (.set i e) env = .nx (env.set i (.sh v)) := by simp -implicitDefEqProofs only [execs, exec, ev, evs, evC, evP, execM, List.getElem?_cons_zero, List.getElem?_cons_succ, sl_sh, sl_ow, sl_sht, sl_owt, fin_f, fin_t, cons_sh, cons_fr, cons_bo, cons_ex, cons_ok_ex, lbind_ok, lbind_ex, bind_ok, bind_ex, cond_b, kp_sh, kp_fr, kp_ex, tru_bl, tru_ex, tru_lst, tru_str, ofB_some', ofV_some, ofO_some, nox_ok, chnR_eq c_le_int, cmpR_eq c_le_int, cmpR_eq c_lt_int, cmpR_eq c_ge_int, cmpR_eq c_gt_int, cmpR_eq c_eq_int, cmpR_eq c_ne_int, cmpR_eq c_eq_str, cmpR_eq c_ne_str, cmpR_eq c_in_sgn, cmpR_eq c_nin_sgn, cmpR_eq c_is_non, cmpR_eq c_isnot_non, b_len_lst, b_len_tup, b_len_cdt, b_len_str, b_all, b_int_int, b_int_bl, b_int_str, b_str_int, b_str_str, b_isinst, b_list_lst, b_list_dct, b_tuple_lst, strK_str, m_sw, fk_sh, fk_fr, fk_ex, fl_ok, fl_ex, lfl_ok, lfl_ex, fc_b, fc_ex, seq_nx, seq_rt, seq_ex, seq_bk, seq_ct, ofFl_rt, ofFl_nx, ofFl_ex, turn_nx, turn_ct, turn_bk, turn_rt, turn_ex, it_lst, it_tup, it_str, it_rng1, it_rng2, it_enum, cmpR_eq c_ne_bl, cmpR_eq c_eq_bl, List.length_cons, List.length_nil, Nat.zero_add, Nat.reduceAdd, Nat.reduceLeDiff, BEq.rfl, clr, slots, Option.map, tgB, List.set_cons_zero, List.set_cons_succ, calR, toSl, Bool.false_eq_true, if_false, if_true, rtlR, frzL, frz1, List.foldl_cons, List.foldl_nil, owOf, ownK, lstK, appP, owS, raiR, tupR, lstR, Bool.not_true, Bool.not_false, nobF, ofF, ty_int0, ty_int1, ty_int2, ty_int3, ty_int4, is23_int, ty_str0, ty_str1, ty_str2, ty_str3, ty_str4, is23_str, ty_lst0, ty_lst1, ty_lst2, ty_lst3, ty_lst4, is23_lst, ty_tup0, ty_tup1, ty_tup2, ty_tup3, ty_tup4, is23_tup, ty_bl0, ty_bl1, ty_bl2, ty_bl3, ty_bl4, is23_bl, ty_non0, ty_non1, ty_non2, ty_non3, ty_non4, is23_non, h]
theorem set_fr {X : EC} {env : Env} {i : Nat} {e : IR} {v : PV} (h : ev X false e env = .ok .fr v) : exec X (.set i e) env = .nx (env.set i (.ow v)) := by simp -implicitDefEqProofs only [execs, exec, ev, evs, evC, evP, execM, List.getElem?_cons_zero, List.getElem?_cons_succ, sl_sh, sl_ow, sl_sht, sl_owt, fin_f, fin_t, cons_sh, cons_fr, cons_bo, cons_ex, cons_ok_ex, lbind_ok, lbind_ex, bind_ok, bind_ex, cond_b, kp_sh, kp_fr, kp_ex, tru_bl, tru_ex, tru_lst, tru_str, ofB_some', ofV_some, ofO_some, nox_ok, chnR_eq c_le_int, cmpR_eq c_le_int, cmpR_eq c_lt_int, cmpR_eq c_ge_int, cmpR_eq c_gt_int, cmpR_eq c_eq_int, cmpR_eq c_ne_int, cmpR_eq c_eq_str, cmpR_eq c_ne_str, cmpR_eq c_in_sgn, cmpR_eq c_nin_sgn, cmpR_eq c_is_non, cmpR_eq c_isnot_non, b_len_lst, b_len_tup, b_len_cdt, b_len_str, b_all, b_int_int, b_int_bl, b_int_str, b_str_int, b_str_str, b_isinst, b_list_lst, b_list_dct, b_tuple_lst, strK_str, m_sw, fk_sh, fk_fr, fk_ex, fl_ok, fl_ex, lfl_ok, lfl_ex, fc_b, fc_ex, seq_nx, seq_rt, seq_ex, seq_bk, seq_ct, ofFl_rt, ofFl_nx, ofFl_ex, turn_nx, turn_ct, turn_bk, turn_rt, turn_ex, it_lst, it_tup, it_str, it_rng1, it_rng2, it_enum, cmpR_eq c_ne_bl, cmpR_eq c_eq_bl, List.length_cons, List.length_nil, Nat.zero_add, Nat.reduceAdd, Nat.reduceLeDiff, BEq.rfl, clr, slots, Option.map, tgB, List.set_cons_zero, List.set_cons_succ, calR, toSl, Bool.false_eq_true, if_false, if_true, rtlR, frzL, frz1, List.foldl_cons, List.foldl_nil, owOf, ownK, lstK, appP, owS, raiR, tupR, lstR, Bool.not_true, Bool.not_false, nobF, ofF, ty_int0, ty_int1, ty_int2, ty_int3, ty_int4, is23_int, ty_str0, ty_str1, ty_str2, ty_str3, ty_str4, is23_str, ty_lst0, ty_lst1, ty_lst2, ty_lst3, ty_lst4, is23_lst, ty_tup0, ty_tup1, ty_tup2, ty_tup3, ty_tup4, is23_tup, ty_bl0, ty_bl1, ty_bl2, ty_bl3, ty_bl4, is23_bl, ty_non0, ty_non1, ty_non2, ty_non3, ty_non4, is23_non, h]
theorem frz_of {X : EC} {is : List Nat} {s : Sm} {env env1 : Env} {r : Fl} (h1 : frzL env is = env1) (h : exec X s env1 = r) : exec X (.frz is s) env = r := by
  simp -implicitDefEqProofs only [exec, h1, h]
theorem call1_loc {X : EC} {env : Env} {f j : Nat} {v r : PV} {m : Md} (hj : env[j]? = some (.sh v)) (h : X.call f [v] = .ok m r) : ev X false (.call f (.cons (.loc j) .nil)) env = .ok m r := by
  simp -implicitDefEqProofs only [execs, exec, ev, evs, evC, evP, execM, List.getElem?_cons_zero, List.getElem?_cons_succ, sl_sh, sl_ow, sl_sht, sl_owt, fin_f, fin_t, cons_sh, cons_fr, cons_bo, cons_ex, cons_ok_ex, lbind_ok, lbind_ex, bind_ok, bind_ex, cond_b, kp_sh, kp_fr, kp_ex, tru_bl, tru_ex, tru_lst, tru_str, ofB_some', ofV_some, ofO_some, nox_ok, chnR_eq c_le_int, cmpR_eq c_le_int, cmpR_eq c_lt_int, cmpR_eq c_ge_int, cmpR_eq c_gt_int, cmpR_eq c_eq_int, cmpR_eq c_ne_int, cmpR_eq c_eq_str, cmpR_eq c_ne_str, cmpR_eq c_in_sgn, cmpR_eq c_nin_sgn, cmpR_eq c_is_non, cmpR_eq c_isnot_non, b_len_lst, b_len_tup, b_len_cdt, b_len_str, b_all, b_int_int, b_int_bl, b_int_str, b_str_int, b_str_str, b_isinst, b_list_lst, b_list_dct, b_tuple_lst, strK_str, m_sw, fk_sh, fk_fr, fk_ex, fl_ok, fl_ex, lfl_ok, lfl_ex, fc_b, fc_ex, seq_nx, seq_rt, seq_ex, seq_bk, seq_ct, ofFl_rt, ofFl_nx, ofFl_ex, turn_nx, turn_ct, turn_bk, turn_rt, turn_ex, it_lst, it_tup, it_str, it_rng1, it_rng2, it_enum, cmpR_eq c_ne_bl, cmpR_eq c_eq_bl, List.length_cons, List.length_nil, Nat.zero_add, Nat.reduceAdd, Nat.reduceLeDiff, BEq.rfl, clr, slots, Option.map, tgB, List.set_cons_zero, List.set_cons_succ, calR, toSl, Bool.false_eq_true, if_false, if_true, rtlR, frzL, frz1, List.foldl_cons, List.foldl_nil, owOf, ownK, lstK, appP, owS, raiR, tupR, lstR, Bool.not_true, Bool.not_false, nobF, ofF, ty_int0, ty_int1, ty_int2, ty_int3, ty_int4, is23_int, ty_str0, ty_str1, ty_str2, ty_str3, ty_str4, is23_str, ty_lst0, ty_lst1, ty_lst2, ty_lst3, ty_lst4, is23_lst, ty_tup0, ty_tup1, ty_tup2, ty_tup3, ty_tup4, is23_tup, ty_bl0, ty_bl1, ty_bl2, ty_bl3, ty_bl4, is23_bl, ty_non0, ty_non1, ty_non2, ty_non3, ty_non4, is23_non, hj, h]
theorem lwIF (X : EC) (env : Env) (M : Nat) (r : List Nat) (t : List Nat) (h2 : env[2]? = some (.sh (.int (M : Int)))) (h4 : env[4]? = some (.sh (encL r))) (h6 : env[6]? = some (.sh (.str t))) (h7 : env[7]? = some (.sh (wV (M, r)))) (h8 : env[8]? = some (.sh (.str t))) (h9 : env[9]? = some (.sh (.tup [.bl true, wV (M, r)])))
    (hs : X.call 18 [wV (M, r), wV (M, r)] = .ok .sh (.bl true)) : exec X (.ifs lwI (.cons (.ret (.cst (.bl false))) .nil) .nil) env = .nx env := by
  have hbb : cmpP .isnot (.bl true) (.bl true) = some false := rfl
  have ht : (t == t) = true := by simp
  have hne := w_ne (M, r)
  have hw : PV.tup [.int (M : Int), encL r] = wV (M, r) := rfl
  generalize wV (M, r) = W at *
  generalize encL r = er at *
  unfold lwI
  simp -implicitDefEqProofs only [execs, exec, ev, evs, evC, evP, execM, List.getElem?_cons_zero, List.getElem?_cons_succ, sl_sh, sl_ow, sl_sht, sl_owt, fin_f, fin_t, cons_sh, cons_fr, cons_bo, cons_ex, cons_ok_ex, lbind_ok, lbind_ex, bind_ok, bind_ex, cond_b, kp_sh, kp_fr, kp_ex, tru_bl, tru_ex, tru_lst, tru_str, ofB_some', ofV_some, ofO_some, nox_ok, chnR_eq c_le_int, cmpR_eq c_le_int, cmpR_eq c_lt_int, cmpR_eq c_ge_int, cmpR_eq c_gt_int, cmpR_eq c_eq_int, cmpR_eq c_ne_int, cmpR_eq c_eq_str, cmpR_eq c_ne_str, cmpR_eq c_in_sgn, cmpR_eq c_nin_sgn, cmpR_eq c_is_non, cmpR_eq c_isnot_non, b_len_lst, b_len_tup, b_len_cdt, b_len_str, b_all, b_int_int, b_int_bl, b_int_str, b_str_int, b_str_str, b_isinst, b_list_lst, b_list_dct, b_tuple_lst, strK_str, m_sw, fk_sh, fk_fr, fk_ex, fl_ok, fl_ex, lfl_ok, lfl_ex, fc_b, fc_ex, seq_nx, seq_rt, seq_ex, seq_bk, seq_ct, ofFl_rt, ofFl_nx, ofFl_ex, turn_nx, turn_ct, turn_bk, turn_rt, turn_ex, it_lst, it_tup, it_str, it_rng1, it_rng2, it_enum, cmpR_eq c_ne_bl, cmpR_eq c_eq_bl, List.length_cons, List.length_nil, Nat.zero_add, Nat.reduceAdd, Nat.reduceLeDiff, BEq.rfl, clr, slots, Option.map, tgB, List.set_cons_zero, List.set_cons_succ, calR, toSl, Bool.false_eq_true, if_false, if_true, rtlR, frzL, frz1, List.foldl_cons, List.foldl_nil, owOf, ownK, lstK, appP, owS, raiR, tupR, lstR, Bool.not_true, Bool.not_false, nobF, ofF, ty_int0, ty_int1, ty_int2, ty_int3, ty_int4, is23_int, ty_str0, ty_str1, ty_str2, ty_str3, ty_str4, is23_str, ty_lst0, ty_lst1, ty_lst2, ty_lst3, ty_lst4, is23_lst, ty_tup0, ty_tup1, ty_tup2, ty_tup3, ty_tup4, is23_tup, ty_bl0, ty_bl1, ty_bl2, ty_bl3, ty_bl4, is23_bl, ty_non0, ty_non1, ty_non2, ty_non3, ty_non4, is23_non, h2, h4, h6, h7, h8, h9, ht, hw, cmpR_eq hne, sub_tup, atP_0, atP_1, cmpR_eq hbb, hs]
theorem lwMain (X : EC) (v : PV) (L : List Int) (hL : L.length = 16) (h0 : X.call 16 [v, .int 0, .int 16] = .ok .fr (.lst (L.map .int)))
    (hX : ∀ p, goodW p → X.call 25 [wV p] = .ok .sh (.str (tW p))) (hS : ∀ p, goodW p → X.call 12 [wV p] = .ok .sh (.str (tW p)))
    (hD : ∀ s : List Nat, s.length ≤ 7000000 → X.call 22 [.int 0, .str s] = .ok .sh (rdPV (rdW s))) (hs : ∀ p : Nat × List Nat, p.2.length ≤ 100 → X.call 18 [wV p, wV p] = .ok .sh (.bl true))
    (hO : ∀ (x0 x1 x2 x3 x4 x5 x6 x7 x8 x9 x10 : Sl) (t : List Nat), t.length ≤ 1000000 → ∃ e', execs X lwO [x0, x1, x2, x3, x4, x5, x6, x7, x8, x9, x10, .sh (.str t), .un, .un, .un] = .nx e' ∧ clr e' [11] = [x0, x1, x2, x3, x4, x5, x6, x7, x8, x9, x10, .un, .un, .un, .un])
    (hT : ∀ (x1 x2 x3 x4 x5 x7 x8 x9 x10 x11 : Sl) (t : List Nat), t.length ≤ 10000 → ∀ j : Nat, j < 1000 → ∃ e', execs X lwT [.sh v, x1, x2, x3, x4, x5, .sh (.str t), x7, x8, x9, x10, x11, .sh (.int (j : Int)), .un, .un] = .nx e' ∧ clr e' [12, 13, 14] = [.sh v, x1, x2, x3, x4, x5, .sh (.str t), x7, x8, x9, x10, x11, .un, .un, .un]) :
    ofFl (execs X b26 [.sh v, .un, .un, .un, .un, .un, .un, .un, .un, .un, .un, .un, .un, .un, .un]) = .ok .sh (.bl true) := by
  have hSL : (SL : Nat) = 16000000 := rfl
  have hat : ∀ i : Nat, i < 16 → subP (.lst (L.map PV.int)) (.int (i : Int)) = some (.int (L.getD i 0)) := fun i hi => by
    rw [sub_lst, atP_nat _ _ (by simp [hL]; omega)]
    simp [List.getD, hL, hi]
  have s0 : subP (.lst (L.map PV.int)) (.int 0) = some (.int (L.getD 0 0)) := hat 0 (by decide)
  have s1 : subP (.lst (L.map PV.int)) (.int 1) = some (.int (L.getD 1 0)) := hat 1 (by decide)
  have s15 : subP (.lst (L.map PV.int)) (.int 15) = some (.int (L.getD 15 0)) := hat 15 (by decide)
  rw [lwSplit]
  rw [stp (env' := [.sh v, .ow (.lst (L.map .int)), .un, .un, .un, .un, .un, .un, .un, .un, .un, .un, .un, .un, .un]) (set_fr (by simp -implicitDefEqProofs only [execs, exec, ev, evs, evC, evP, execM, List.getElem?_cons_zero, List.getElem?_cons_succ, sl_sh, sl_ow, sl_sht, sl_owt, fin_f, fin_t, cons_sh, cons_fr, cons_bo, cons_ex, cons_ok_ex, lbind_ok, lbind_ex, bind_ok, bind_ex, cond_b, kp_sh, kp_fr, kp_ex, tru_bl, tru_ex, tru_lst, tru_str, ofB_some', ofV_some, ofO_some, nox_ok, chnR_eq c_le_int, cmpR_eq c_le_int, cmpR_eq c_lt_int, cmpR_eq c_ge_int, cmpR_eq c_gt_int, cmpR_eq c_eq_int, cmpR_eq c_ne_int, cmpR_eq c_eq_str, cmpR_eq c_ne_str, cmpR_eq c_in_sgn, cmpR_eq c_nin_sgn, cmpR_eq c_is_non, cmpR_eq c_isnot_non, b_len_lst, b_len_tup, b_len_cdt, b_len_str, b_all, b_int_int, b_int_bl, b_int_str, b_str_int, b_str_str, b_isinst, b_list_lst, b_list_dct, b_tuple_lst, strK_str, m_sw, fk_sh, fk_fr, fk_ex, fl_ok, fl_ex, lfl_ok, lfl_ex, fc_b, fc_ex, seq_nx, seq_rt, seq_ex, seq_bk, seq_ct, ofFl_rt, ofFl_nx, ofFl_ex, turn_nx, turn_ct, turn_bk, turn_rt, turn_ex, it_lst, it_tup, it_str, it_rng1, it_rng2, it_enum, cmpR_eq c_ne_bl, cmpR_eq c_eq_bl, List.length_cons, List.length_nil, Nat.zero_add, Nat.reduceAdd, Nat.reduceLeDiff, BEq.rfl, clr, slots, Option.map, tgB, List.set_cons_zero, List.set_cons_succ, calR, toSl, Bool.false_eq_true, if_false, if_true, rtlR, frzL, frz1, List.foldl_cons, List.foldl_nil, owOf, ownK, lstK, appP, owS, raiR, tupR, lstR, Bool.not_true, Bool.not_false, nobF, ofF, ty_int0, ty_int1, ty_int2, ty_int3, ty_int4, is23_int, ty_str0, ty_str1, ty_str2, ty_str3, ty_str4, is23_str, ty_lst0, ty_lst1, ty_lst2, ty_lst3, ty_lst4, is23_lst, ty_tup0, ty_tup1, ty_tup2, ty_tup3, ty_tup4, is23_tup, ty_bl0, ty_bl1, ty_bl2, ty_bl3, ty_bl4, is23_bl, ty_non0, ty_non1, ty_non2, ty_non3, ty_non4, is23_non, h0]))]
  obtain ⟨M, M1, M2, hM⟩ := lwMod X v (.lst (L.map .int)) _ _ s0 s1 [.un, .un, .un, .un, .un, .un, .un, .un, .un, .un, .un, .un, .un]
  rw [stp (env' := [.sh v, .ow (.lst (L.map .int)), .sh (.int (M : Int)), .un, .un, .un, .un, .un, .un, .un, .un, .un, .un, .un, .un]) (set_sh hM)]
  obtain ⟨T, T1, T2, T3, hTm⟩ := lwMost X (.sh v) (.ow (.lst (L.map .int))) M M1 M2 [.un, .un, .un, .un, .un, .un, .un, .un, .un, .un, .un, .un]
  rw [stp (env' := [.sh v, .ow (.lst (L.map .int)), .sh (.int (M : Int)), .sh (.int (T : Int)), .un, .un, .un, .un, .un, .un, .un, .un, .un, .un, .un]) (set_sh hTm)]
  obtain ⟨q, hq, eq⟩ := emod_nat (L.getD 15 0) T (by omega)
  have b1 : binP .mod (.int (L.getD 15 0)) (.int (T : Int)) = .ok .sh (.int (q : Int)) := (modx (by simp -implicitDefEqProofs only [decide_eq_true_eq]; omega)).trans (int_congr eq)
  have b2 : binP .add (.int 1) (.int (q : Int)) = .ok .sh (.int ((1 + q : Nat) : Int)) := addx.trans (int_congr (by omega))
  have hlc := lc_map (X := X) (env := [.sh v, .ow (.lst (L.map .int)), .sh (.int (M : Int)), .sh (.int (T : Int)), .un, .un, .un, .un, .un, .un, .un, .un, .un, .un, .un]) (tg := .v 5) (kk := .rng) (src := .cons (.bin .add (.cst (.int 1)) (.bin .mod (.sub (.loc 1) (.cst (.int 15))) (.loc 3))) .nil) (elt := lwElt) (fun (j : Nat) => PV.int (j : Int)) (fun j => .int (wgt L M j : Int)) (List.range (1 + q)) (nb := true) (vs := [.int ((1 + q : Nat) : Int)]) (by
      generalize PV.lst (L.map PV.int) = S at s15
      simp -implicitDefEqProofs only [execs, exec, ev, evs, evC, evP, execM, List.getElem?_cons_zero, List.getElem?_cons_succ, sl_sh, sl_ow, sl_sht, sl_owt, fin_f, fin_t, cons_sh, cons_fr, cons_bo, cons_ex, cons_ok_ex, lbind_ok, lbind_ex, bind_ok, bind_ex, cond_b, kp_sh, kp_fr, kp_ex, tru_bl, tru_ex, tru_lst, tru_str, ofB_some', ofV_some, ofO_some, nox_ok, chnR_eq c_le_int, cmpR_eq c_le_int, cmpR_eq c_lt_int, cmpR_eq c_ge_int, cmpR_eq c_gt_int, cmpR_eq c_eq_int, cmpR_eq c_ne_int, cmpR_eq c_eq_str, cmpR_eq c_ne_str, cmpR_eq c_in_sgn, cmpR_eq c_nin_sgn, cmpR_eq c_is_non, cmpR_eq c_isnot_non, b_len_lst, b_len_tup, b_len_cdt, b_len_str, b_all, b_int_int, b_int_bl, b_int_str, b_str_int, b_str_str, b_isinst, b_list_lst, b_list_dct, b_tuple_lst, strK_str, m_sw, fk_sh, fk_fr, fk_ex, fl_ok, fl_ex, lfl_ok, lfl_ex, fc_b, fc_ex, seq_nx, seq_rt, seq_ex, seq_bk, seq_ct, ofFl_rt, ofFl_nx, ofFl_ex, turn_nx, turn_ct, turn_bk, turn_rt, turn_ex, it_lst, it_tup, it_str, it_rng1, it_rng2, it_enum, cmpR_eq c_ne_bl, cmpR_eq c_eq_bl, List.length_cons, List.length_nil, Nat.zero_add, Nat.reduceAdd, Nat.reduceLeDiff, BEq.rfl, clr, slots, Option.map, tgB, List.set_cons_zero, List.set_cons_succ, calR, toSl, Bool.false_eq_true, if_false, if_true, rtlR, frzL, frz1, List.foldl_cons, List.foldl_nil, owOf, ownK, lstK, appP, owS, raiR, tupR, lstR, Bool.not_true, Bool.not_false, nobF, ofF, ty_int0, ty_int1, ty_int2, ty_int3, ty_int4, is23_int, ty_str0, ty_str1, ty_str2, ty_str3, ty_str4, is23_str, ty_lst0, ty_lst1, ty_lst2, ty_lst3, ty_lst4, is23_lst, ty_tup0, ty_tup1, ty_tup2, ty_tup3, ty_tup4, is23_tup, ty_bl0, ty_bl1, ty_bl2, ty_bl3, ty_bl4, is23_bl, ty_non0, ty_non1, ty_non2, ty_non3, ty_non4, is23_non, s15, b1, b2]) (by rw [it_rng1, if_pos (inR_nat (by omega)), rng_nat]) (fun j hj => ⟨_, rfl, .inl (lwEl X L hL M j M1 (by have := List.mem_range.mp hj; omega) _ _ _ _)⟩)
  have e1 : ((List.range (1 + q)).map fun j => PV.int (wgt L M j : Int)) = ((List.range (1 + q)).map (wgt L M)).map fun (n : Nat) => .int (n : Int) := by rw [List.map_map]; rfl
  rw [e1] at hlc
  have hr1 : 1 ≤ ((List.range (1 + q)).map (wgt L M)).length ∧ ((List.range (1 + q)).map (wgt L M)).length ≤ T := by simp; omega
  have hr2 : ∀ n ∈ (List.range (1 + q)).map (wgt L M), n < M := by
    intro n hn
    obtain ⟨j, _, rfl⟩ := List.mem_map.mp hn
    exact wgt_lt L M j M1
  generalize (List.range (1 + q)).map (wgt L M) = r at hlc hr1 hr2
  have hg : goodW (M, r) := ⟨by simp only; omega, by simp only; omega, fun n hn => by have := hr2 n hn; omega⟩
  have ha : areW (M, r) = true := by
    have hm := Nat.mul_le_mul_left M hr1.2
    have hm2 : M * T = T * M := Nat.mul_comm _ _
    unfold areW
    simp only
    rw [if_neg (by simp; omega)]
    simp -implicitDefEqProofs only [Bool.and_eq_true, List.all_eq_true, decide_eq_true_eq]
    exact ⟨hr2, by omega⟩
  have hb := tW_back (M, r) ha M2 hr1.1 (fun n hn => by have := hr2 n hn; omega)
  have htl := tW_len (M, r) hg
  have k1 := hX (M, r) hg
  have k2 := hS (M, r) hg
  have k3 := hD (tW (M, r)) (by omega)
  rw [hb] at k3
  have k4 := hs (M, r) (by simp only; omega)
  have hw : PV.tup [.int (M : Int), encL r] = wV (M, r) := rfl
  have hl3 := lwL3T X hX M M2 r (by omega) hr2
  rw [stp (env' := [.sh v, .ow (.lst (L.map .int)), .sh (.int (M : Int)), .sh (.int (T : Int)), .ow (encL r), .un, .un, .un, .un, .un, .un, .un, .un, .un, .un]) (set_fr hlc)]
  generalize hS0 : Sl.ow (.lst (L.map .int)) = S
  clear hlc hS0
  generalize htw : tW (M, r) = t at *
  have q9 : ∀ env : Env, ∃ ys : List (List Nat), lw ys ≤ 600 ∧ exec X (.set 10 lwL1) env = .nx (env.set 10 (.ow (.lst (ys.map .str)))) := by
    intro env
    have h : isTxw (ev X false lwL1 env) 600 := by
      unfold lwL1
      refine txw_lst (k := 13) (n := 40) ?_ (by decide) (by decide)
      repeat first
        | exact txl_nil
        | refine txl_cons (txt_cst _ (by decide)) ?_
    obtain ⟨ys, y1, y2⟩ := h
    exact ⟨ys, y2, set_fr y1⟩
  obtain ⟨ys, y1, q9⟩ := q9 [.sh v, S, .sh (.int (M : Int)), .sh (.int (T : Int)), .sh (encL r), .un, .sh (.str t), .sh (wV (M, r)), .sh (.str t), .sh (.tup [.bl true, wV (M, r)]), .un, .un, .un, .un, .un]
  have q10 : ∃ zs : List (List Nat), lw zs ≤ 200000 ∧ exec X (.set 10 (.bin .add (.loc 10) lwL2)) [.sh v, S, .sh (.int (M : Int)), .sh (.int (T : Int)), .sh (encL r), .un, .sh (.str t), .sh (wV (M, r)), .sh (.str t), .sh (.tup [.bl true, wV (M, r)]), .ow (.lst (ys.map .str)), .un, .un, .un, .un] = .nx [.sh v, S, .sh (.int (M : Int)), .sh (.int (T : Int)), .sh (encL r), .un, .sh (.str t), .sh (wV (M, r)), .sh (.str t), .sh (.tup [.bl true, wV (M, r)]), .ow (.lst (zs.map .str)), .un, .un, .un, .un] := by
    have h2 : isTxw (ev X false lwL2 [.sh v, S, .sh (.int (M : Int)), .sh (.int (T : Int)), .sh (encL r), .un, .sh (.str t), .sh (wV (M, r)), .sh (.str t), .sh (.tup [.bl true, wV (M, r)]), .ow (.lst (ys.map .str)), .un, .un, .un, .un]) 180000 := by
      unfold lwL2
      refine txw_lst (k := 15) (n := 8000) ?_ (by decide) (by decide)
      repeat first
        | exact txl_nil
        | refine txl_cons (txt_cst _ (by decide)) ?_
        | refine txl_cons (txt_add (txt_loc t rfl (Nat.le_refl _)) (txt_cst [10] (Nat.le_refl 1)) (by omega) (by omega)) ?_
        | refine txl_cons (txt_add (txt_add (txt_loc t rfl (Nat.le_refl _)) (txt_cst [10] (Nat.le_refl 1)) (by omega) (Nat.le_refl _)) (txt_loc t rfl (Nat.le_refl _)) (by omega) (by omega)) ?_
    have h := txw_add (k := 200000) (txs_ow (X := X) (i := 10) (env := [.sh v, S, .sh (.int (M : Int)), .sh (.int (T : Int)), .sh (encL r), .un, .sh (.str t), .sh (wV (M, r)), .sh (.str t), .sh (.tup [.bl true, wV (M, r)]), .ow (.lst (ys.map .str)), .un, .un, .un, .un]) ys rfl y1) h2.txs (by decide) (by decide)
    obtain ⟨zs, y1, y2⟩ := h
    exact ⟨zs, y2, set_fr y1⟩
  obtain ⟨zs, z1, q10⟩ := q10
  rw [stp (env' := [.sh v, S, .sh (.int (M : Int)), .sh (.int (T : Int)), .sh (encL r), .un, .sh (.str t), .un, .un, .un, .un, .un, .un, .un, .un]) (frz_of (env1 := [.sh v, S, .sh (.int (M : Int)), .sh (.int (T : Int)), .sh (encL r), .un, .un, .un, .un, .un, .un, .un, .un, .un, .un]) rfl (set_sh (by
      generalize wV (M, r) = W at *
      generalize encL r = er at *
      simp -implicitDefEqProofs only [execs, exec, ev, evs, evC, evP, execM, List.getElem?_cons_zero, List.getElem?_cons_succ, sl_sh, sl_ow, sl_sht, sl_owt, fin_f, fin_t, cons_sh, cons_fr, cons_bo, cons_ex, cons_ok_ex, lbind_ok, lbind_ex, bind_ok, bind_ex, cond_b, kp_sh, kp_fr, kp_ex, tru_bl, tru_ex, tru_lst, tru_str, ofB_some', ofV_some, ofO_some, nox_ok, chnR_eq c_le_int, cmpR_eq c_le_int, cmpR_eq c_lt_int, cmpR_eq c_ge_int, cmpR_eq c_gt_int, cmpR_eq c_eq_int, cmpR_eq c_ne_int, cmpR_eq c_eq_str, cmpR_eq c_ne_str, cmpR_eq c_in_sgn, cmpR_eq c_nin_sgn, cmpR_eq c_is_non, cmpR_eq c_isnot_non, b_len_lst, b_len_tup, b_len_cdt, b_len_str, b_all, b_int_int, b_int_bl, b_int_str, b_str_int, b_str_str, b_isinst, b_list_lst, b_list_dct, b_tuple_lst, strK_str, m_sw, fk_sh, fk_fr, fk_ex, fl_ok, fl_ex, lfl_ok, lfl_ex, fc_b, fc_ex, seq_nx, seq_rt, seq_ex, seq_bk, seq_ct, ofFl_rt, ofFl_nx, ofFl_ex, turn_nx, turn_ct, turn_bk, turn_rt, turn_ex, it_lst, it_tup, it_str, it_rng1, it_rng2, it_enum, cmpR_eq c_ne_bl, cmpR_eq c_eq_bl, List.length_cons, List.length_nil, Nat.zero_add, Nat.reduceAdd, Nat.reduceLeDiff, BEq.rfl, clr, slots, Option.map, tgB, List.set_cons_zero, List.set_cons_succ, calR, toSl, Bool.false_eq_true, if_false, if_true, rtlR, frzL, frz1, List.foldl_cons, List.foldl_nil, owOf, ownK, lstK, appP, owS, raiR, tupR, lstR, Bool.not_true, Bool.not_false, nobF, ofF, ty_int0, ty_int1, ty_int2, ty_int3, ty_int4, is23_int, ty_str0, ty_str1, ty_str2, ty_str3, ty_str4, is23_str, ty_lst0, ty_lst1, ty_lst2, ty_lst3, ty_lst4, is23_lst, ty_tup0, ty_tup1, ty_tup2, ty_tup3, ty_tup4, is23_tup, ty_bl0, ty_bl1, ty_bl2, ty_bl3, ty_bl4, is23_bl, ty_non0, ty_non1, ty_non2, ty_non3, ty_non4, is23_non, hw, k1]))),
    stp (env' := [.sh v, S, .sh (.int (M : Int)), .sh (.int (T : Int)), .sh (encL r), .un, .sh (.str t), .sh (wV (M, r)), .un, .un, .un, .un, .un, .un, .un]) (frz_of (env1 := [.sh v, S, .sh (.int (M : Int)), .sh (.int (T : Int)), .sh (encL r), .un, .sh (.str t), .un, .un, .un, .un, .un, .un, .un, .un]) rfl (set_sh (by
      have e : bltP .list [encL r] = .ok .fr (encL r) := rfl
      generalize wV (M, r) = W at *
      generalize encL r = er at *
      simp -implicitDefEqProofs only [execs, exec, ev, evs, evC, evP, execM, List.getElem?_cons_zero, List.getElem?_cons_succ, sl_sh, sl_ow, sl_sht, sl_owt, fin_f, fin_t, cons_sh, cons_fr, cons_bo, cons_ex, cons_ok_ex, lbind_ok, lbind_ex, bind_ok, bind_ex, cond_b, kp_sh, kp_fr, kp_ex, tru_bl, tru_ex, tru_lst, tru_str, ofB_some', ofV_some, ofO_some, nox_ok, chnR_eq c_le_int, cmpR_eq c_le_int, cmpR_eq c_lt_int, cmpR_eq c_ge_int, cmpR_eq c_gt_int, cmpR_eq c_eq_int, cmpR_eq c_ne_int, cmpR_eq c_eq_str, cmpR_eq c_ne_str, cmpR_eq c_in_sgn, cmpR_eq c_nin_sgn, cmpR_eq c_is_non, cmpR_eq c_isnot_non, b_len_lst, b_len_tup, b_len_cdt, b_len_str, b_all, b_int_int, b_int_bl, b_int_str, b_str_int, b_str_str, b_isinst, b_list_lst, b_list_dct, b_tuple_lst, strK_str, m_sw, fk_sh, fk_fr, fk_ex, fl_ok, fl_ex, lfl_ok, lfl_ex, fc_b, fc_ex, seq_nx, seq_rt, seq_ex, seq_bk, seq_ct, ofFl_rt, ofFl_nx, ofFl_ex, turn_nx, turn_ct, turn_bk, turn_rt, turn_ex, it_lst, it_tup, it_str, it_rng1, it_rng2, it_enum, cmpR_eq c_ne_bl, cmpR_eq c_eq_bl, List.length_cons, List.length_nil, Nat.zero_add, Nat.reduceAdd, Nat.reduceLeDiff, BEq.rfl, clr, slots, Option.map, tgB, List.set_cons_zero, List.set_cons_succ, calR, toSl, Bool.false_eq_true, if_false, if_true, rtlR, frzL, frz1, List.foldl_cons, List.foldl_nil, owOf, ownK, lstK, appP, owS, raiR, tupR, lstR, Bool.not_true, Bool.not_false, nobF, ofF, ty_int0, ty_int1, ty_int2, ty_int3, ty_int4, is23_int, ty_str0, ty_str1, ty_str2, ty_str3, ty_str4, is23_str, ty_lst0, ty_lst1, ty_lst2, ty_lst3, ty_lst4, is23_lst, ty_tup0, ty_tup1, ty_tup2, ty_tup3, ty_tup4, is23_tup, ty_bl0, ty_bl1, ty_bl2, ty_bl3, ty_bl4, is23_bl, ty_non0, ty_non1, ty_non2, ty_non3, ty_non4, is23_non, e, hw]))),
    stp (env' := [.sh v, S, .sh (.int (M : Int)), .sh (.int (T : Int)), .sh (encL r), .un, .sh (.str t), .sh (wV (M, r)), .sh (.str t), .un, .un, .un, .un, .un, .un]) (frz_of (env1 := [.sh v, S, .sh (.int (M : Int)), .sh (.int (T : Int)), .sh (encL r), .un, .sh (.str t), .sh (wV (M, r)), .un, .un, .un, .un, .un, .un, .un]) rfl (set_sh (call1_loc rfl k2))),
    stp (env' := [.sh v, S, .sh (.int (M : Int)), .sh (.int (T : Int)), .sh (encL r), .un, .sh (.str t), .sh (wV (M, r)), .sh (.str t), .sh (.tup [.bl true, wV (M, r)]), .un, .un, .un, .un, .un]) (frz_of (env1 := [.sh v, S, .sh (.int (M : Int)), .sh (.int (T : Int)), .sh (encL r), .un, .sh (.str t), .sh (wV (M, r)), .sh (.str t), .un, .un, .un, .un, .un, .un]) rfl (set_sh (by
      simp -implicitDefEqProofs only [execs, exec, ev, evs, evC, evP, execM, List.getElem?_cons_zero, List.getElem?_cons_succ, sl_sh, sl_ow, sl_sht, sl_owt, fin_f, fin_t, cons_sh, cons_fr, cons_bo, cons_ex, cons_ok_ex, lbind_ok, lbind_ex, bind_ok, bind_ex, cond_b, kp_sh, kp_fr, kp_ex, tru_bl, tru_ex, tru_lst, tru_str, ofB_some', ofV_some, ofO_some, nox_ok, chnR_eq c_le_int, cmpR_eq c_le_int, cmpR_eq c_lt_int, cmpR_eq c_ge_int, cmpR_eq c_gt_int, cmpR_eq c_eq_int, cmpR_eq c_ne_int, cmpR_eq c_eq_str, cmpR_eq c_ne_str, cmpR_eq c_in_sgn, cmpR_eq c_nin_sgn, cmpR_eq c_is_non, cmpR_eq c_isnot_non, b_len_lst, b_len_tup, b_len_cdt, b_len_str, b_all, b_int_int, b_int_bl, b_int_str, b_str_int, b_str_str, b_isinst, b_list_lst, b_list_dct, b_tuple_lst, strK_str, m_sw, fk_sh, fk_fr, fk_ex, fl_ok, fl_ex, lfl_ok, lfl_ex, fc_b, fc_ex, seq_nx, seq_rt, seq_ex, seq_bk, seq_ct, ofFl_rt, ofFl_nx, ofFl_ex, turn_nx, turn_ct, turn_bk, turn_rt, turn_ex, it_lst, it_tup, it_str, it_rng1, it_rng2, it_enum, cmpR_eq c_ne_bl, cmpR_eq c_eq_bl, List.length_cons, List.length_nil, Nat.zero_add, Nat.reduceAdd, Nat.reduceLeDiff, BEq.rfl, clr, slots, Option.map, tgB, List.set_cons_zero, List.set_cons_succ, calR, toSl, Bool.false_eq_true, if_false, if_true, rtlR, frzL, frz1, List.foldl_cons, List.foldl_nil, owOf, ownK, lstK, appP, owS, raiR, tupR, lstR, Bool.not_true, Bool.not_false, nobF, ofF, ty_int0, ty_int1, ty_int2, ty_int3, ty_int4, is23_int, ty_str0, ty_str1, ty_str2, ty_str3, ty_str4, is23_str, ty_lst0, ty_lst1, ty_lst2, ty_lst3, ty_lst4, is23_lst, ty_tup0, ty_tup1, ty_tup2, ty_tup3, ty_tup4, is23_tup, ty_bl0, ty_bl1, ty_bl2, ty_bl3, ty_bl4, is23_bl, ty_non0, ty_non1, ty_non2, ty_non3, ty_non4, is23_non, k3, rdPV]))),
    stp (env' := [.sh v, S, .sh (.int (M : Int)), .sh (.int (T : Int)), .sh (encL r), .un, .sh (.str t), .sh (wV (M, r)), .sh (.str t), .sh (.tup [.bl true, wV (M, r)]), .un, .un, .un, .un, .un]) (frz_of (env1 := [.sh v, S, .sh (.int (M : Int)), .sh (.int (T : Int)), .sh (encL r), .un, .sh (.str t), .sh (wV (M, r)), .sh (.str t), .sh (.tup [.bl true, wV (M, r)]), .un, .un, .un, .un, .un]) rfl (lwIF X _ M r t rfl rfl rfl rfl rfl rfl k4)),
    stp q9]
  show ofFl (execs X _ [.sh v, S, .sh (.int (M : Int)), .sh (.int (T : Int)), .sh (encL r), .un, .sh (.str t), .sh (wV (M, r)), .sh (.str t), .sh (.tup [.bl true, wV (M, r)]), .ow (.lst (ys.map .str)), .un, .un, .un, .un]) = _
  rw [stp q10,
    stp (env' := [.sh v, S, .sh (.int (M : Int)), .sh (.int (T : Int)), .sh (encL r), .un, .sh (.str t), .sh (wV (M, r)), .sh (.str t), .sh (.tup [.bl true, wV (M, r)]), .ow (.lst (zs.map .str)), .un, .un, .un, .un]) (frz_of (env1 := [.sh v, S, .sh (.int (M : Int)), .sh (.int (T : Int)), .sh (encL r), .un, .sh (.str t), .sh (wV (M, r)), .sh (.str t), .sh (.tup [.bl true, wV (M, r)]), .ow (.lst (zs.map .str)), .un, .un, .un, .un]) rfl
      (for_txw (n := 500000) (txw_add (txs_ow zs rfl (show lw zs ≤ 300000 by omega)) (hl3 _ rfl rfl).txs (by decide) (by decide)) (fun u hu => hO _ _ _ _ _ _ _ _ _ _ _ u (by omega)))),
    stp (env' := [.sh v, S, .sh (.int (M : Int)), .sh (.int (T : Int)), .sh (encL r), .un, .sh (.str t), .sh (wV (M, r)), .sh (.str t), .sh (.tup [.bl true, wV (M, r)]), .ow (.lst (zs.map .str)), .un, .un, .un, .un]) (by
      have e20 : evs X (.cons (.cst (.int 20)) .nil) [.sh v, S, .sh (.int (M : Int)), .sh (.int (T : Int)), .sh (encL r), .un, .sh (.str t), .sh (wV (M, r)), .sh (.str t), .sh (.tup [.bl true, wV (M, r)]), .ow (.lst (zs.map .str)), .un, .un, .un, .un] = .ok true [.int ((20 : Nat) : Int)] := rfl
      simp -implicitDefEqProofs only [exec, e20, lfl_ok, nobF, it_rng1, inR_nat (show (20 : Nat) ≤ 8000000 by decide), if_true, Option.map_some, ofF, rng_nat]
      refine for_same _ fun x hx => ?_
      obtain ⟨j, hj, rfl⟩ := List.mem_map.mp hx
      have hj' : j < 20 := by simpa using hj
      exact hT _ _ _ _ _ _ _ _ _ _ t (by omega) j (by omega))]
  simp -implicitDefEqProofs only [execs, exec, ev, evs, evC, evP, execM, List.getElem?_cons_zero, List.getElem?_cons_succ, sl_sh, sl_ow, sl_sht, sl_owt, fin_f, fin_t, cons_sh, cons_fr, cons_bo, cons_ex, cons_ok_ex, lbind_ok, lbind_ex, bind_ok, bind_ex, cond_b, kp_sh, kp_fr, kp_ex, tru_bl, tru_ex, tru_lst, tru_str, ofB_some', ofV_some, ofO_some, nox_ok, chnR_eq c_le_int, cmpR_eq c_le_int, cmpR_eq c_lt_int, cmpR_eq c_ge_int, cmpR_eq c_gt_int, cmpR_eq c_eq_int, cmpR_eq c_ne_int, cmpR_eq c_eq_str, cmpR_eq c_ne_str, cmpR_eq c_in_sgn, cmpR_eq c_nin_sgn, cmpR_eq c_is_non, cmpR_eq c_isnot_non, b_len_lst, b_len_tup, b_len_cdt, b_len_str, b_all, b_int_int, b_int_bl, b_int_str, b_str_int, b_str_str, b_isinst, b_list_lst, b_list_dct, b_tuple_lst, strK_str, m_sw, fk_sh, fk_fr, fk_ex, fl_ok, fl_ex, lfl_ok, lfl_ex, fc_b, fc_ex, seq_nx, seq_rt, seq_ex, seq_bk, seq_ct, ofFl_rt, ofFl_nx, ofFl_ex, turn_nx, turn_ct, turn_bk, turn_rt, turn_ex, it_lst, it_tup, it_str, it_rng1, it_rng2, it_enum, cmpR_eq c_ne_bl, cmpR_eq c_eq_bl, List.length_cons, List.length_nil, Nat.zero_add, Nat.reduceAdd, Nat.reduceLeDiff, BEq.rfl, clr, slots, Option.map, tgB, List.set_cons_zero, List.set_cons_succ, calR, toSl, Bool.false_eq_true, if_false, if_true, rtlR, frzL, frz1, List.foldl_cons, List.foldl_nil, owOf, ownK, lstK, appP, owS, raiR, tupR, lstR, Bool.not_true, Bool.not_false, nobF, ofF, ty_int0, ty_int1, ty_int2, ty_int3, ty_int4, is23_int, ty_str0, ty_str1, ty_str2, ty_str3, ty_str4, is23_str, ty_lst0, ty_lst1, ty_lst2, ty_lst3, ty_lst4, is23_lst, ty_tup0, ty_tup1, ty_tup2, ty_tup3, ty_tup4, is23_tup, ty_bl0, ty_bl1, ty_bl2, ty_bl3, ty_bl4, is23_bl, ty_non0, ty_non1, ty_non2, ty_non3, ty_non4, is23_non]
theorem pure_law : ∀ (ns : List Int) (v : PV), ns.length ≤ 63 → Scr ns v → callF P 100 26 [v] = .ok .sh (.bl true) := by
  intro ns v _ hv
  rw [show (100 : Nat) = 99 + 1 from rfl, e26]
  have key : ∀ F : Nat → List PV → Rs, F = callF P 99 → ofFl (execs ⟨F, par, 4⟩ b26 [.sh v, .un, .un, .un, .un, .un, .un, .un, .un, .un, .un, .un, .un, .un, .un]) = .ok .sh (.bl true) := by
    intro F hF
    refine lwMain ⟨F, par, 4⟩ v (lawN ((0 : Nat) : Int) (firC ns 0) 16) (lawN_len _ _ _) ?_ ?_ ?_ ?_ ?_ ?_ ?_
    · show F 16 _ = _
      rw [hF]
      exact f16' (d := 98) hv 0 16 rfl rfl (by decide)
    · intro p hg
      show F 25 _ = _
      rw [hF]
      exact f25 98 p hg
    · intro p hg
      show F 12 _ = _
      rw [hF]
      exact f12 97 p hg
    · intro s hs
      show F 22 _ = _
      rw [hF]
      exact f22 90 0 s hs
    · intro p hp
      show F 18 _ = _
      rw [hF]
      exact same_w 95 p (by omega)
    · rw [hF]
      exact fun x0 x1 x2 x3 x4 x5 x6 x7 x8 x9 x10 t ht => lwOther 79 x0 x1 x2 x3 x4 x5 x6 x7 x8 x9 x10 t ht
    · rw [hF]
      exact fun x1 x2 x3 x4 x5 x7 x8 x9 x10 x11 t ht j hj => lwTurn 79 ns v hv x1 x2 x3 x4 x5 x7 x8 x9 x10 x11 t ht j hj
  exact key _ rfl
end Wk81
set_option Elab.async false
set_option linter.all false
set_option maxRecDepth 100000
set_option maxHeartbeats 2000000
open PySem PySem.W PyProof.Rows
set_option maxRecDepth 100000 in
set_option maxHeartbeats 0 in
theorem PySem.Challenge.cw_slipscaught_k81_notes_of_weights_holds : PySem.Challenge.rw_slipscaught_k81_notes_of_weights.Holds := by
  w_on; o_law; k_head; (case hw => w_witness2)
  k_fill
  refine EV.law_end (l := PySem.Challenge.rw_slipscaught_k81_notes_of_weights) (n := 63) (k := 100) (f := 26) (x := "script") Wk81.P rfl (by decide) rfl ⟨rfl, by decide, by decide⟩ (fun w h Y => PySem.W.kIn_of Y) ?F Wk81.pure_law
  case F =>
    intro w mg fa h KX G hmg
    refine' Wk81.all_mk KX G hmg ?a0 ?l0 ?c0 ?k0 ?a1 ?l1 ?c1 ?k1 ?a2 ?l2 ?c2 ?k2 ?a3 ?l3 ?c3 ?k3 ?a4 ?l4 ?c4 ?k4 ?a5 ?l5 ?c5 ?k5 ?a6 ?l6 ?c6 ?k6 ?a7 ?l7 ?c7 ?k7 ?a8 ?l8 ?c8 ?k8 ?a9 ?l9 ?c9 ?k9 ?a10 ?l10 ?c10 ?k10 ?a11 ?l11 ?c11 ?k11 ?a12 ?l12 ?c12 ?k12 ?a13 ?l13 ?c13 ?k13 ?a14 ?l14 ?c14 ?k14 ?a15 ?l15 ?c15 ?k15 ?a16 ?l16 ?c16 ?k16 ?a17 ?l17 ?c17 ?k17 ?a18 ?l18 ?c18 ?k18 ?a19 ?l19 ?c19 ?k19 ?a20 ?l20 ?c20 ?k20 ?a21 ?l21 ?c21 ?k21 ?a22 ?l22 ?c22 ?k22 ?a23 ?l23 ?c23 ?k23 ?a24 ?l24 ?c24 ?k24 ?a25 ?l25 ?c25 ?k25 ?a26 ?l26 ?c26 ?k26 ?ac0 ?eC0 ?tC0 ?hC0 ?ga0 ?gg0 ?gc0 ?mo0 ?ac1 ?eC1 ?tC1 ?hC1 ?ga1 ?gg1 ?gc1 ?mo1 ?ac2 ?eC2 ?tC2 ?hC2 ?ga2 ?gg2 ?gc2 ?mo2 ?ac3 ?eC3 ?tC3 ?hC3 ?ga3 ?gg3 ?gc3 ?mo3 ?sg ?tk ?sb0_0 ?sb0_1 ?sb0_2 ?sb0_3 ?sb1_0 ?sb1_1 ?sb1_2 ?sb1_3 ?sb2_0 ?sb2_1 ?sb2_2 ?sb2_3 ?sb3_0 ?sb3_1 ?sb3_2 ?sb3_3 ?xL3 ?sa3 ?nb3 ?in3 ?tI3 ?lI3 ?cI3 ?kC3 ?z_len ?z_MOST_FIGURES ?z_FIGURES ?z_all ?z_int ?z_str ?z_enumerate ?z_COLON ?z_LEAST_MODULUS ?z_GREATEST_MODULUS ?z_MOST_WEIGHTS ?z_MOST_STATES ?z_range ?z_isinstance ?z_bool ?z_tuple ?z_list ?z_min
    (case a0 => first | k_is | rfl); (case l0 => first | k_is | rfl); (case c0 => first | k_is | rfl); (case k0 => first | k_is | rfl); (case a1 => first | k_is | rfl); (case l1 => first | k_is | rfl)
    (case c1 => first | k_is | rfl); (case k1 => first | k_is | rfl); (case a2 => first | k_is | rfl); (case l2 => first | k_is | rfl); (case c2 => first | k_is | rfl); (case k2 => first | k_is | rfl)
    (case a3 => first | k_is | rfl); (case l3 => first | k_is | rfl); (case c3 => first | k_is | rfl); (case k3 => first | k_is | rfl); (case a4 => first | k_is | rfl); (case l4 => first | k_is | rfl)
    (case c4 => first | k_is | rfl); (case k4 => first | k_is | rfl); (case a5 => first | k_is | rfl); (case l5 => first | k_is | rfl); (case c5 => first | k_is | rfl); (case k5 => first | k_is | rfl)
    (case a6 => first | k_is | rfl); (case l6 => first | k_is | rfl); (case c6 => first | k_is | rfl); (case k6 => first | k_is | rfl); (case a7 => first | k_is | rfl); (case l7 => first | k_is | rfl)
    (case c7 => first | k_is | rfl); (case k7 => first | k_is | rfl); (case a8 => first | k_is | rfl); (case l8 => first | k_is | rfl); (case c8 => first | k_is | rfl); (case k8 => first | k_is | rfl)
    (case a9 => first | k_is | rfl); (case l9 => first | k_is | rfl); (case c9 => first | k_is | rfl); (case k9 => first | k_is | rfl); (case a10 => first | k_is | rfl); (case l10 => first | k_is | rfl)
    (case c10 => first | k_is | rfl); (case k10 => first | k_is | rfl); (case a11 => first | k_is | rfl); (case l11 => first | k_is | rfl); (case c11 => first | k_is | rfl); (case k11 => first | k_is | rfl)
    (case a12 => first | k_is | rfl); (case l12 => first | k_is | rfl); (case c12 => first | k_is | rfl); (case k12 => first | k_is | rfl); (case a13 => first | k_is | rfl); (case l13 => first | k_is | rfl)
    (case c13 => first | k_is | rfl); (case k13 => first | k_is | rfl); (case a14 => first | k_is | rfl); (case l14 => first | k_is | rfl); (case c14 => first | k_is | rfl); (case k14 => first | k_is | rfl)
    (case a15 => first | k_is | rfl); (case l15 => first | k_is | rfl); (case c15 => first | k_is | rfl); (case k15 => first | k_is | rfl); (case a16 => first | k_is | rfl); (case l16 => first | k_is | rfl)
    (case c16 => first | k_is | rfl); (case k16 => first | k_is | rfl); (case a17 => first | k_is | rfl); (case l17 => first | k_is | rfl); (case c17 => first | k_is | rfl); (case k17 => first | k_is | rfl)
    (case a18 => first | k_is | rfl); (case l18 => first | k_is | rfl); (case c18 => first | k_is | rfl); (case k18 => first | k_is | rfl); (case a19 => first | k_is | rfl); (case l19 => first | k_is | rfl)
    (case c19 => first | k_is | rfl); (case k19 => first | k_is | rfl); (case a20 => first | k_is | rfl); (case l20 => first | k_is | rfl); (case c20 => first | k_is | rfl); (case k20 => first | k_is | rfl)
    (case a21 => first | k_is | rfl); (case l21 => first | k_is | rfl); (case c21 => first | k_is | rfl); (case k21 => first | k_is | rfl); (case a22 => first | k_is | rfl); (case l22 => first | k_is | rfl)
    (case c22 => first | k_is | rfl); (case k22 => first | k_is | rfl); (case a23 => first | k_is | rfl); (case l23 => first | k_is | rfl); (case c23 => first | k_is | rfl); (case k23 => first | k_is | rfl)
    (case a24 => first | k_is | rfl); (case l24 => first | k_is | rfl); (case c24 => first | k_is | rfl); (case k24 => first | k_is | rfl); (case a25 => first | k_is | rfl); (case l25 => first | k_is | rfl)
    (case c25 => first | k_is | rfl); (case k25 => first | k_is | rfl); (case a26 => first | k_is | rfl); (case l26 => first | k_is | rfl); (case c26 => first | k_is | rfl); (case k26 => first | k_is | rfl)
    (case ac0 => first | k_is | rfl); (case eC0 => first | k_is | rfl); (case tC0 => first | k_is | rfl); (case hC0 => first | k_is | rfl); (case ga0 => first | k_is | rfl); (case gg0 => first | k_is | rfl)
    (case gc0 => first | k_is | rfl); (case mo0 => first | k_is | rfl); (case ac1 => first | k_is | rfl); (case eC1 => first | k_is | rfl); (case tC1 => first | k_is | rfl); (case hC1 => first | k_is | rfl)
    (case ga1 => first | k_is | rfl); (case gg1 => first | k_is | rfl); (case gc1 => first | k_is | rfl); (case mo1 => first | k_is | rfl); (case ac2 => first | k_is | rfl); (case eC2 => first | k_is | rfl)
    (case tC2 => first | k_is | rfl); (case hC2 => first | k_is | rfl); (case ga2 => first | k_is | rfl); (case gg2 => first | k_is | rfl); (case gc2 => first | k_is | rfl); (case mo2 => first | k_is | rfl)
    (case ac3 => first | k_is | rfl); (case eC3 => first | k_is | rfl); (case tC3 => first | k_is | rfl); (case hC3 => first | k_is | rfl); (case ga3 => first | k_is | rfl); (case gg3 => first | k_is | rfl)
    (case gc3 => first | k_is | rfl); (case mo3 => first | k_is | rfl); (case sg => first | k_is | rfl); (case tk => first | k_is | rfl); (case sb0_0 => first | k_is | rfl); (case sb0_1 => first | k_is | rfl)
    (case sb0_2 => first | k_is | rfl); (case sb0_3 => first | k_is | rfl); (case sb1_0 => first | k_is | rfl); (case sb1_1 => first | k_is | rfl); (case sb1_2 => first | k_is | rfl); (case sb1_3 => first | k_is | rfl)
    (case sb2_0 => first | k_is | rfl); (case sb2_1 => first | k_is | rfl); (case sb2_2 => first | k_is | rfl); (case sb2_3 => first | k_is | rfl); (case sb3_0 => first | k_is | rfl); (case sb3_1 => first | k_is | rfl)
    (case sb3_2 => first | k_is | rfl); (case sb3_3 => first | k_is | rfl); (case xL3 => first | k_is | rfl); (case sa3 => first | k_is | rfl); (case nb3 => first | k_is | rfl); (case in3 => first | k_is | rfl)
    (case tI3 => first | k_is | rfl); (case lI3 => first | k_is | rfl); (case cI3 => first | k_is | rfl); (case kC3 => first | k_is | rfl); (case z_len => first | k_is | rfl); (case z_MOST_FIGURES => first | k_is | rfl)
    (case z_FIGURES => first | k_is | rfl); (case z_all => first | k_is | rfl); (case z_int => first | k_is | rfl); (case z_str => first | k_is | rfl); (case z_enumerate => first | k_is | rfl); (case z_COLON => first | k_is | rfl)
    (case z_LEAST_MODULUS => first | k_is | rfl); (case z_GREATEST_MODULUS => first | k_is | rfl); (case z_MOST_WEIGHTS => first | k_is | rfl); (case z_MOST_STATES => first | k_is | rfl); (case z_range => first | k_is | rfl); (case z_isinstance => first | k_is | rfl)
    (case z_bool => first | k_is | rfl); (case z_tuple => first | k_is | rfl); (case z_list => first | k_is | rfl); (case z_min => first | k_is | rfl)
