import PyProof.Rows.All
import Wide.All
import OpenK.AllK
import Wide.FinOn
import PySem.Challenge.RW_fallingfields_k15_whole_least_wholes_of
import HandS.ForMost
import KE.KDictKeyed
import KE.KDictPairs
import KE.KDictDisplayH
import HandS.Lambda
import HandS.TupMul
import HandS.TupAny
import HandS.Call
import HandS.Style
import PyProof.EqAt
import PyProof.EqKinds
import PyProof.FactsAll.tuple_2
import HandS.Wide
import HandS.Text
import HandS.Deep
import KE.KTupSum
import KE.DataMinMax
import KE.SortData
import HandS.IsInst
import HandS.Flow
import HandS.EndBits
import HandS.Zip
import KE.GoesZip
import KE.GoesMore
import KE.GoesEnum
import HandS.Conv
import HandS.More
import HandS.SetFor
import HandS.Strs
import HandS.SortKw
import KE.KSortKey
import KE.SortKeyHeap
import KE.KNestM
import HandS.Codes
import HandS.Exc
import HandS.ExcOwn
import HandS.RaiseMore
import HandS.ExcIs
import HandS.ExcField
import HandS.ExcInit
import HandS.ExcSuper
import KE.KExcSuper
import KE.KExcIs
import HandS.Star
import HandS.FStr
import PyProof.ReprBulk
set_option Elab.async false
set_option linter.all false
set_option maxRecDepth 100000
set_option maxHeartbeats 3999999
/-! FFCore: a small language of data, its evaluator. -/
namespace FF
open PySem


/-- data: trees; `ref n` a mutable cell of the evaluator's own heap; `scr` the script -/
inductive D where
  | non | bl (b : Bool) | int (i : Int) | str (s : Str)
  | tup (ds : List D) | lst (ds : List D) | scr (ns : List Int) | ktp (ns : List Int)
  | ref (n : Nat) | dct (kv : List D) | exn (c : String) (fs : List D)
  deriving Inhabited

mutual
def D.beq : D → D → Bool
  | .non, .non => true
  | .bl a, .bl b => a == b
  | .int a, .int b => a == b
  | .str a, .str b => a == b
  | .tup a, .tup b => D.beqs a b
  | .lst a, .lst b => D.beqs a b
  | .scr a, .scr b => a == b
  | .ktp a, .ktp b => a == b
  | .ref a, .ref b => a == b
  | .dct a, .dct b => D.beqs a b
  | .exn c a, .exn d b => c == d && D.beqs a b
  | _, _ => false
def D.beqs : List D → List D → Bool
  | [], [] => true
  | a :: as, b :: bs => D.beq a b && D.beqs as bs
  | _, _ => false
end

abbrev Key := L2.Key

/-- what stands in a cell -/
inductive Ob where
  | lst (ds : List D) | dct (kvs : List (Key × D)) | dctT (kvs : List (List Key × D)) | dctN (kvs : List (D × D)) | ins (c : String) (fs : List (Str × D)) | dead
  deriving Inhabited
abbrev Hq := List Ob
abbrev Env' := List (Option D)

/-- what comes of a reckoning -/
inductive R (α : Type) where
  | ok (a : α) | exc (e : D) (h : Hq) | stuck
  deriving Inhabited
@[reducible] def R.bind {α β : Type} (x : R α) (f : α → R β) : R β := match x with | .ok a => f a | .exc e h => .exc e h | .stuck => .stuck
/-- what raises is nothing here -/
def hush {α : Type} : R α → R α
  | .exc _ _ => .stuck
  | r => r
def lift {α : Type} : Option α → R α
  | some a => .ok a
  | none => .stuck
def ofO {α : Type} (h : Hq) : Option α → Option (α × Hq)
  | some a => some (a, h)
  | none => none

inductive Bi where
  | len | int | abs | max | min | max2 | min2 | sum | tuple | list | range | repr | str | divmod | set | sorted | ss | all | bool | isint | isbool | isstr | istup | dict | tupleK | sortK
  deriving DecidableEq, Inhabited
inductive Me where
  | append | pop | popAt | popKey | extend | insert | count | index | get2 | setdefault | join | split | replace
  deriving DecidableEq, Inhabited

mutual
inductive Ex where
  | var (i : Nat)
  | const (d : D)
  | glob (x : Str) (d : D)
  | bin (op : Operator) (live : Bool) (a b : Ex)
  | neg (a : Ex)
  | notV (a : Ex)
  | cmp (op : CmpOp) (a b : Ex)
  | cmp2 (op op' : CmpOp) (a b c : Ex)
  | andV (a b : Ex)
  | orV (a b : Ex)
  | ife (t a b : Ex)
  | tup (es : Exs)
  | tupK (es : Exs)
  | lst (live : Bool) (es : Exs)
  | dct (live : Bool) (es : Exs)
  | comp (live : Bool) (tg : Tg) (it : It) (ifs : Exs) (elt : Ex) (own : List Nat)
  | ix (a i : Ex)
  | slice (a : Ex) (lo hi : Exo)
  | rev (a : Ex)
  | call (f : Nat) (args : Exs)
  | callK (f : Nat) (perm : List Nat) (args : Exs)
  | callN (f : Nat) (args : Exs)
  | callNK (f : Nat) (perm : List Nat) (args : Exs)
  | bi (f : Bi) (live : Bool) (args : Exs)
  | me (m : Me) (o : Ex) (args : Exs)
  | lrng (live : Bool) (it : It)
  | trng (it : It)
  | dnew (tk : Bool)
  | newN
  | getN (o k d : Ex)
  | dget (x k d : Ex)
  | dispN (k v : Ex)
  | listN (live : Bool) (o : Ex)
  | sndN (live : Bool) (a b : Nat) (o : Ex)
  | star (a : Ex)
inductive Exs where
  | nil | cons (e : Ex) (es : Exs)
inductive Exo where
  | no | yes (e : Ex)
inductive It where
  | ex (e : Ex) | range1 (a : Ex) | range2 (a b : Ex) | enum (i : It) | zip (a b : Ex)
inductive Tg where
  | name (i : Nat) | tup (ts : Tgs)
inductive Tgs where
  | nil | cons (t : Tg) (ts : Tgs)
end
/-- an except clause of the laws' one form: return [tag, err.field?, True] -/
structure Hand where
  cls : String
  tag : Str
  fld : Bool

mutual
inductive Sm where
  | set (tg : Tg) (e : Ex)
  | par (is : List Nat) (es : Exs)
  | setIx (o i e : Ex)
  | setN (o i e : Ex)
  | expr (e : Ex)
  | ret (e : Ex)
  | retN
  | ite (t : Ex) (a b : Sms)
  | for (tg : Tg) (it : It) (body : Sms)
  | while (t : Ex) (body : Sms)
  | brk | cont | pass
  | never
  | raise (c : String) (es : Exs)
  | tryR (body : Sms) (hs : List Hand)
inductive Sms where
  | nil | cons (s : Sm) (ss : Sms)
end

/-! ### plain pieces -/
/-- both below a line that no reckoning of ours passes -/
def wide (i : Int) : Bool := decide (i.natAbs.log2 < 400000)
def mulOk (i j : Int) : Bool := decide (-(2 ^ 64) < i ∧ i < 2 ^ 64) || decide (-(2 ^ 64) < j ∧ j < 2 ^ 64) || (wide i && wide j)
/-- a list's place by an index of any sign -/
def at? {α : Type} (xs : List α) (i : Int) : Option α := L2.atI xs i
def cut {α : Type} (xs : List α) (lo hi : Option Int) : List α := (xs.drop (HT.sIx xs.length 0 lo)).take (HT.sIx xs.length xs.length hi - HT.sIx xs.length 0 lo)
def lineOk (n : Nat) : Bool := decide (n ≤ 16777216)

def kget {κ : Type} [DecidableEq κ] (kvs : List (κ × D)) (k : κ) : Option D := (kvs.find? fun kv => decide (kv.1 = k)).map (·.2)
def kput {κ : Type} [DecidableEq κ] (kvs : List (κ × D)) (k : κ) (v : D) : List (κ × D) :=
  if (kvs.any fun kv => decide (kv.1 = k)) = true then kvs.map (fun kv => if kv.1 = k then (kv.1, v) else kv) else kvs ++ [(k, v)]
def kdrop {κ : Type} [DecidableEq κ] (kvs : List (κ × D)) (k : κ) : List (κ × D) := kvs.filter fun kv => decide (kv.1 ≠ k)
def keyOf : D → Option Key
  | .int i => some (.inl i)
  | .str s => some (.inr s)
  | _ => none
def keysOf : List D → Option (List Key)
  | [] => some []
  | d :: ds => match keyOf d, keysOf ds with | some k, some ks => some (k :: ks) | _, _ => none

def pairsOf : List D → Option (List (Key × D))
  | [] => some []
  | k :: v :: r => match keyOf k, pairsOf r with | some k, some kvs => some ((k, v) :: kvs) | _, _ => none
  | _ => none
/-! dicts whose keys are tuples, nested -/
mutual
def nk : D → Option NestedKey
  | .non => some .none
  | .bl b => some (.num (if b = true then 1 else 0))
  | .int i => some (.num i)
  | .tup ds => (nks ds).map .tup
  | .ktp ns => some (.tup (ns.map .num))
  | _ => none
def nks : List D → Option (List NestedKey)
  | [] => some []
  | d :: ds => match nk d, nks ds with | some k, some ks => some (k :: ks) | _, _ => none
end
def isTupD : D → Bool
  | .tup _ => true
  | .ktp _ => true
  | _ => false
def keyN (d : D) : Option NestedKey := if isTupD d then (match nk d with | some k => if k.depth ≤ 8 then some k else none | none => none) else none
def nget (kvs : List (D × D)) (k : NestedKey) : Option D := (kvs.find? fun p => decide (keyN p.1 = some k)).map (·.2)
def nput (kvs : List (D × D)) (d : D) (k : NestedKey) (v : D) : List (D × D) :=
  if (kvs.any fun p => decide (keyN p.1 = some k)) = true then kvs.map (fun p => if keyN p.1 = some k then (p.1, v) else p) else kvs ++ [(d, v)]
/-- pairs of a key and a thing -/
def pairs2 : List D → Option (List (Key × D))
  | [] => some []
  | .tup [k, v] :: r => match keyOf k, pairs2 r with | some k, some kvs => some ((k, v) :: kvs) | _, _ => none
  | _ => none
/-- the items of a sequence -/
def itemsOf (h : Hq) : D → Option (List D)
  | .tup ds => some ds
  | .lst ds => some ds
  | .scr ns => some (ns.map .int)
  | .ktp ns => some (ns.map .int)
  | .ref n => match h[n]? with | some (.lst ds) => some ds | _ => none
  | _ => none
def intsOf : List D → Option (List Int)
  | [] => some []
  | .int i :: ds => (intsOf ds).map (i :: ·)
  | _ => none
def blsOf : List D → Option (List Bool)
  | [] => some []
  | .bl i :: ds => (blsOf ds).map (i :: ·)
  | _ => none
def strsOf : List D → Option (List Str)
  | [] => some []
  | .str i :: ds => (strsOf ds).map (i :: ·)
  | _ => none

def truth (h : Hq) : D → Option Bool
  | .non => some false
  | .bl b => some b
  | .int i => some (i != 0)
  | .str s => if lineOk s.length then some (s.length != 0) else none
  | .tup ds => some (!ds.isEmpty)
  | .lst ds => some (!ds.isEmpty)
  | .ref n => match h[n]? with | some (.lst ds) => some (!ds.isEmpty) | some (.dct kvs) => some (!kvs.isEmpty) | _ => none
  | _ => none

/-! ### data without cells -/
mutual
def D.pure : D → Bool
  | .ref _ => false
  | .tup ds => D.pures ds
  | .lst ds => D.pures ds
  | .dct ds => D.pures ds
  | .exn _ ds => D.pures ds
  | .scr _ => true
  | _ => true
def D.pures : List D → Bool
  | [] => true
  | d :: ds => d.pure && D.pures ds
end
mutual
/-- the tree of data as it stands in the cells, g for what stands in a cell -/
def D.melt (g : List D → Option (List D)) (h : Hq) : D → Option D
  | .ref n => match h[n]? with
    | some (.lst ds) => (g ds).map .lst
    | _ => none
  | .tup ds => (D.melts g h ds).map .tup
  | .lst ds => (D.melts g h ds).map .lst
  | .dct ds => (D.melts g h ds).map .dct
  | .exn c ds => (D.melts g h ds).map (.exn c)
  | d => some d
def D.melts (g : List D → Option (List D)) (h : Hq) : List D → Option (List D)
  | [] => some []
  | d :: ds => match D.melt g h d, D.melts g h ds with | some a, some b => some (a :: b) | _, _ => none
end
def meltN (h : Hq) : Nat → List D → Option (List D)
  | 0, ds => if D.pures ds then some ds else none
  | k + 1, ds => D.melts (meltN h k) h ds
def melt1 (h : Hq) (d : D) : Option D := match meltN h 3 [d] with | some [x] => some x | _ => none

/-! ### operators -/
def mkL (live : Bool) (ds : List D) (h : Hq) : Option (D × Hq) :=
  if lineOk ds.length then (if live then some (.ref h.length, h ++ [.lst ds]) else some (.lst ds, h)) else none
def mkK (ds : List D) (h : Hq) : Option (D × Hq) := match intsOf ds with
  | some ns => if lineOk ns.length then some (.ktp ns, h) else none
  | none => none
def mkT (ds : List D) (h : Hq) : Option (D × Hq) := if lineOk ds.length then some (.tup ds, h) else none

/-- the list of a list (a tree or a cell) -/
def lstOf (h : Hq) : D → Option (List D)
  | .lst ds => some ds
  | .ref n => match h[n]? with | some (.lst ds) => some ds | _ => none
  | _ => none

/-- .. or the script's -/
def sqlOf (h : Hq) : D → Option (List D)
  | .scr ns => some (ns.map .int)
  | d => lstOf h d
def int2 (C : Int → Int → Bool) (g : Int → Int → Int) (x y : D) (h : Hq) : Option (D × Hq) :=
  match x, y with
  | .int i, .int j => if C i j then some (.int (g i j), h) else none
  | _, _ => none
def addD (live : Bool) (x y : D) (h : Hq) : Option (D × Hq) :=
  match x, y with
  | .int i, .int j => some (.int (i + j), h)
  | .str i, .str j => if lineOk (i.length + j.length) then some (.str (i ++ j), h) else none
  | .tup i, .tup j => if lineOk (i.length + j.length) then some (.tup (i ++ j), h) else none
  | .ktp i, .ktp j => if lineOk (i.length + j.length) then some (.ktp (i ++ j), h) else none
  | a, b => match lstOf h a, lstOf h b with
    | some i, some j => if lineOk (i.length + j.length) then mkL live (i ++ j) h else none
    | _, _ => none
def mulD (live : Bool) (x y : D) (h : Hq) : Option (D × Hq) :=
  match y with
  | .int k => match x with
    | .int i => if mulOk i k then some (.int (i * k), h) else none
    | .tup i => if i ≠ [] ∧ -1000 ≤ k ∧ k ≤ 1000 ∧ i.length ≤ 1000 then some (.tup (List.replicate k.toNat i).flatten, h) else none
    | .ktp i => if i ≠ [] ∧ 1 ≤ k ∧ k ≤ 1000 ∧ i.length ≤ 1000 then some (.ktp (List.replicate k.toNat i).flatten, h) else none
    | a => match lstOf h a with
      | some i => if -(2 ^ 63) ≤ k ∧ k < 2 ^ 63 ∧ lineOk (i.length * k.toNat) then mkL live (List.replicate k.toNat i).flatten h else none
      | none => none
  | _ => none
def powOk (i j : Int) : Bool := decide (0 ≤ j ∧ j ≤ 1000000 ∧ i.natAbs < 2 ^ 64)
def binop (op : Operator) (live : Bool) (x y : D) (h : Hq) : Option (D × Hq) :=
  match op with
  | .Add => addD live x y h
  | .Sub => int2 (fun _ _ => true) (fun i j => i - j) x y h
  | .Mult => mulD live x y h
  | .FloorDiv => int2 (fun _ j => decide (0 < j ∧ j.natAbs.log2 < 9000)) (fun i j => i / j) x y h
  | .Mod => int2 (fun _ j => decide (0 < j)) (fun i j => i % j) x y h
  | .Pow => int2 powOk (fun i j => i ^ j.toNat) x y h
  | .LShift => int2 powOk (fun i j => i * 2 ^ j.toNat) x y h
  | .RShift => int2 (fun _ j => decide (0 ≤ j)) (fun i j => i / 2 ^ j.toNat) x y h
  | .BitAnd => int2 (fun _ _ => true) Builtin.bitAnd x y h
  | _ => none

mutual
/-- data as the library's trees -/
def D.py : D → Option PyData
  | .non => some .none
  | .bl b => some (.bool b)
  | .int i => some (.int i)
  | .str s => some (.str s)
  | .tup ds => (D.pys ds).map .tuple
  | .lst ds => (D.pys ds).map .list
  | .ktp ns => some (.tuple (ns.map .int))
  | _ => none
def D.pys : List D → Option (List PyData)
  | [] => some []
  | d :: ds => match D.py d, D.pys ds with | some a, some b => some (a :: b) | _, _ => none
end
def pyOf (h : Hq) (d : D) : Option PyData := (melt1 h d).bind D.py
/-- data that the library's repr, == take -/
def showOk (p : PyData) : Bool := p.showable && !p.hasDict && decide (p.depth ≤ 64) && lineOk p.shown.length
def eqPy (p q : PyData) : Option Bool := if SeqAt.shaped p && SeqAt.shaped q then some (PyData.eqv p q) else none
/-- scalars alike -/
def scalEq : D → D → Option Bool
  | .non, .non => some true
  | .int a, .int b => some (a == b)
  | .str a, .str b => some (a == b)
  | .bl a, .bl b => some (a == b)
  | _, _ => none
def eqD (h : Hq) (x y : D) : Option Bool :=
  match scalEq x y with
  | some b => some b
  | none => match pyOf h x, pyOf h y with
    | some p, some q => eqPy p q
    | _, _ => none
def lexLt : List Int → List Int → Bool := HT.lexLt
def ltD : D → D → Option Bool
  | .int a, .int b => some (decide (a < b))
  | .tup a, .tup b => match intsOf a, intsOf b with | some x, some y => some (HT.lexLt x y) | _, _ => none
  | _, _ => none
def flatD : D → Bool
  | .non => true | .bl _ => true | .int _ => true | .str _ => true | _ => false
def eqFl : D → D → Bool
  | .non, .non => true
  | .bl a, .bl b => a == b
  | .int a, .int b => a == b
  | .str a, .str b => a == b
  | .bl a, .int j => (if a then 1 else 0) == j
  | .int i, .bl b => i == (if b then 1 else 0)
  | _, _ => false
/-- x in xs of flat things; of plain data -/
def inD (h : Hq) (x y : D) : Option Bool :=
  match y with
  | .str b => match x with | .str a => some (!(Builtin.Str.occurrences b a 0 b.length 1).isEmpty) | _ => none
  | .ref n => match h[n]? with
    | some (.dct kvs) => (keyOf x).map fun k => (kget kvs k).isSome
    | some (.dctT kvs) => match x with | .tup ks => (keysOf ks).map fun k => (kget kvs k).isSome | _ => none
    | some (.lst ds) => if flatD x && ds.all flatD then some (ds.any fun d => eqFl d x) else none
    | _ => none
  | y => match itemsOf h y with
    | some ds => if flatD x && ds.all flatD then some (ds.any fun d => eqFl d x) else match pyOf h x, pyOf h y with
      | some d, some (.tuple ps) => if SeqAt.shaped d && SeqAt.shaped (.tuple ps) && decide (d.depth ≤ 60) then some (ps.any fun z => PyData.eqv z d) else none
      | some d, some (.list ps) => if SeqAt.shaped d && SeqAt.shaped (.list ps) then some (ps.any fun z => PyData.eqv z d) else none
      | _, _ => none
    | none => none

def intC (g : Int → Int → Bool) (x y : D) (h : Hq) : Option (D × Hq) :=
  match x, y with
  | .int i, .int j => some (.bl (g i j), h)
  | _, _ => none
def isNon : D → Bool
  | .non => true
  | _ => false
/-- is, is not: of two bools -/
def isBB (g : Bool → Bool) (x y : D) (h : Hq) : Option (D × Hq) :=
  match x, y with
  | .bl a, .bl b => some (.bl (g (decide (a = b))), h)
  | _, _ => none
def cmpop (op : CmpOp) (x y : D) (h : Hq) : Option (D × Hq) :=
  match op with
  | .Eq => ofO h ((eqD h x y).map .bl)
  | .NotEq => ofO h ((eqD h x y).map fun b => .bl (!b))
  | .Lt => ofO h ((ltD x y).map .bl)
  | .LtE => intC (fun a b => decide (a ≤ b)) x y h
  | .Gt => intC (fun a b => decide (b < a)) x y h
  | .GtE => intC (fun a b => decide (b ≤ a)) x y h
  | .Is => if isNon y then some (.bl (isNon x), h) else isBB id x y h
  | .IsNot => if isNon y then some (.bl (!isNon x), h) else isBB not x y h
  | .In => ofO h ((inD h x y).map .bl)
  | .NotIn => ofO h ((inD h x y).map fun b => .bl (!b))

def ixD (x i : D) (h : Hq) : Option (D × Hq) :=
  match x, i with
  | .str z, .int i => if lineOk z.length then (match at? z.cps.toList i with | some c => some (.str ⟨#[c]⟩, h) | none => none) else none
  | .ref n, i => match h[n]? with
    | some (.lst ds) => match i with | .int i => ofO h (at? ds i) | _ => none
    | some (.dct kvs) => match keyOf i with | some k => ofO h (kget kvs k) | none => none
    | some (.dctT kvs) => match i with | .tup ks => (match keysOf ks with | some k => ofO h (kget kvs k) | none => none) | _ => none
    | _ => none
  | x, .int i => match itemsOf h x with | some ds => ofO h (at? ds i) | none => none
  | _, _ => none
def hset (h : Hq) (n : Nat) (o : Ob) : Hq := h.set n o
def setD (x i v : D) (h : Hq) : Option Hq :=
  match x with
  | .ref n => match h[n]? with
    | some (.lst ds) => match i with
      | .int i => match L2.ixN ds.length i with | some j => some (hset h n (.lst (ds.set j v))) | none => none
      | _ => none
    | some (.dct kvs) => match keyOf i with | some k => if kvs.length < 16777216 then some (hset h n (.dct (kput kvs k v))) else none | none => none
    | some (.dctT kvs) => match i with | .tup ks => (match keysOf ks with | some k => if kvs.length < 16777216 then some (hset h n (.dctT (kput kvs k v))) else none | none => none) | _ => none
    | _ => none
  | _ => none
def mkD (live : Bool) (ds : List D) (h : Hq) : Option (D × Hq) :=
  match pairsOf ds with
  | some kvs => if kvs.length ≤ 15 then (if live then some (.ref h.length, h ++ [.dct (kvs.foldl (fun acc kv => kput acc kv.1 kv.2) [])]) else none) else none
  | none => none
def sliceD (x : D) (lo hi : Option Int) (h : Hq) : Option (D × Hq) :=
  match x with
  | .ktp ns => some (.ktp (cut ns lo hi), h)
  | .tup ds => some (.tup (cut ds lo hi), h)
  | .str z => if lineOk z.length then some (.str (L2.cutS z lo hi), h) else none
  | x => match sqlOf h x with | some ds => some (.lst (cut ds lo hi), h) | none => none

def foldMax : List Int → Option Int
  | [] => none
  | a :: l => some (l.foldl max a)
def foldMin : List Int → Option Int
  | [] => none
  | a :: l => some (l.foldl min a)
def insI (x : Int) : List Int → List Int
  | [] => [x]
  | y :: r => if x ≤ y then x :: y :: r else y :: insI x r
def sortI : List Int → List Int
  | [] => []
  | x :: r => insI x (sortI r)
/-- sorted, each once -/
def insU (x : Int) : List Int → List Int
  | [] => [x]
  | y :: r => if x < y then x :: y :: r else if x = y then y :: r else y :: insU x r
def sortU : List Int → List Int
  | [] => []
  | x :: r => insU x (sortU r)
def tupsI : List D → Option (List (List Int))
  | [] => some []
  | .tup ds :: r => match intsOf ds, tupsI r with | some a, some b => some (a :: b) | _, _ => none
  | _ => none
def lessT (a y : List Int) : List Int := if HT.lexLt y a then y else a
def foldMinT : List (List Int) → Option (List Int)
  | [] => none
  | a :: l => some (l.foldl lessT a)
def moreT (a y : List Int) : List Int := if HT.lexLt a y then y else a
def foldMaxT : List (List Int) → Option (List Int)
  | [] => none
  | a :: l => some (l.foldl moreT a)
/-- tuples of ints, sorted; how they may lie -/
def sortT (l : List (List Int)) : List (List Int) := l.mergeSort fun a b => !(HT.lexLt b a)
def sortOk (l : List (List Int)) : Bool := (l.all fun ns => !ns.isEmpty) || (match l with | [] :: _ => true | _ => false)
/-- texts, sorted -/
def leS (a b : Str) : Bool := !decide (b.cps.toList < a.cps.toList)
def sortS (l : List Str) : List Str := l.mergeSort leS
def rangeL (lo hi : Int) : List D := (List.range (hi - lo).toNat).map fun (i : Nat) => .int (lo + i)

def negD (x : D) (h : Hq) : Option (D × Hq) := match x with | .int i => some (.int (-i), h) | _ => none
def revD (x : D) (h : Hq) : Option (D × Hq) := match x with
  | .ktp ns => some (.ktp ns.reverse, h)
  | .tup ds => some (.tup ds.reverse, h)
  | x => match lstOf h x with | some ds => some (.lst ds.reverse, h) | none => none
def un1 (g : D → Hq → Option (D × Hq)) (args : List D) (h : Hq) : Option (D × Hq) := match args with | [x] => g x h | _ => none
def un2 (g : D → D → Hq → Option (D × Hq)) (args : List D) (h : Hq) : Option (D × Hq) := match args with | [x, y] => g x y h | _ => none
def lenD (x : D) (h : Hq) : Option (D × Hq) := match x with
  | .str z => if lineOk z.length then some (.int z.length, h) else none
  | .ref n => match h[n]? with
    | some (.lst ds) => some (.int ds.length, h)
    | some (.dct kvs) => some (.int kvs.length, h)
    | _ => none
  | x => match itemsOf h x with | some ds => some (.int ds.length, h) | none => none
def toIntD (x : D) (h : Hq) : Option (D × Hq) := match x with
  | .int i => some (.int i, h)
  | .bl b => some (.int (if b then 1 else 0), h)
  | .str z => if z.length ≤ 640 then (match intText? z with | some n => some (.int n, h) | none => none) else none
  | _ => none
def toBoolD (x : D) (h : Hq) : Option (D × Hq) := match x with
  | .int i => some (.bl (i != 0), h)
  | .bl b => some (.bl b, h)
  | _ => none
def absD (x : D) (h : Hq) : Option (D × Hq) := match x with
  | .int i => some (.int (if i < 0 then -i else i), h)
  | _ => none
def intsL (h : Hq) (x : D) : Option (List Int) := (lstOf h x).bind intsOf
def maxD (x : D) (h : Hq) : Option (D × Hq) := match x with
  | .tup ds => (match intsOf ds with | some ns => ofO h ((foldMax ns).map .int) | none => none)
  | x => match intsL h x with
    | some ns => ofO h ((foldMax ns).map .int)
    | none => match (lstOf h x).bind tupsI with
      | some nss => ofO h ((foldMaxT nss).map fun ns => .tup (ns.map .int))
      | none => none
def minD (x : D) (h : Hq) : Option (D × Hq) := match x with
  | .tup ds => (match intsOf ds with | some ns => ofO h ((foldMin ns).map .int) | none => none)
  | x => match intsL h x with
    | some ns => ofO h ((foldMin ns).map .int)
    | none => match (lstOf h x).bind tupsI with
      | some nss => ofO h ((foldMinT nss).map fun ns => .tup (ns.map .int))
      | none => none
def sumD (x : D) (h : Hq) : Option (D × Hq) := match x with
  | .tup ds => (match intsOf ds with | some ns => some (.int ns.sum, h) | none => none)
  | x => match intsL h x with | some ns => some (.int ns.sum, h) | none => none
def allD (x : D) (h : Hq) : Option (D × Hq) := match (lstOf h x).bind blsOf with | some bs => some (.bl (bs.all id), h) | none => none
def tupleKD (x : D) (h : Hq) : Option (D × Hq) := match sqlOf h x with
  | some ds => (match intsOf ds with | some ns => some (.ktp ns, h) | none => none)
  | none => none
def tupleD (x : D) (h : Hq) : Option (D × Hq) := match x with
  | .tup ds => some (.tup ds, h)
  | .ktp ds => some (.ktp ds, h)
  | x => match sqlOf h x with | some ds => some (.tup ds, h) | none => none
def listD (live : Bool) (x : D) (h : Hq) : Option (D × Hq) := match itemsOf h x with | some ds => mkL live ds h | none => none
def reprD (x : D) (h : Hq) : Option (D × Hq) := match pyOf h x with | some p => if showOk p then some (.str p.shown, h) else none | none => none
def divmodD (x y : D) (h : Hq) : Option (D × Hq) := match x, y with
  | .int i, .int j => if 0 < j ∧ j < 1073741824 then some (.tup [.int (i / j), .int (i % j)], h) else none
  | _, _ => none
def strD (x : D) (h : Hq) : Option (D × Hq) := match x with | .int i => if i.natAbs.log2 < 1920 then some (.str (toString i), h) else none | _ => none
def sortedD (live : Bool) (x : D) (h : Hq) : Option (D × Hq) := match intsL h x with
  | some ns => if ns.length < 64 then mkL live ((sortI ns).map .int) h else none
  | none => match (lstOf h x).bind tupsI with
    | some nss => if sortOk nss && decide (nss.length ≤ 1000) then mkL live ((sortT nss).map fun ns => .tup (ns.map .int)) h else none
    | none => match (lstOf h x).bind strsOf with
      | some zs => if zs.length ≤ 1000 then mkL live ((sortS zs).map .str) h else none
      | none => none
def ssD (live : Bool) (x : D) (h : Hq) : Option (D × Hq) := match x with
  | .tup ds => match intsOf ds with | some ns => if ns.length < 64 then mkL live ((sortU ns).map .int) h else none | none => none
  | _ => none
/-- the type of a thing, of four -/
def isIn (f : Bi) (d : D) : Bool := match f, d with
  | .isint, .int _ => true | .isint, .bl _ => true
  | .isbool, .bl _ => true
  | .isstr, .str _ => true
  | .istup, .tup _ => true | .istup, .ktp _ => true
  | _, _ => false
def isN (h : Hq) (x : D) : Bool := match x with | .ref n => (match h[n]? with | some (.dctN _) => true | _ => false) | _ => false
def isD (f : Bi) (x : D) (h : Hq) : Option (D × Hq) := if isN h x then none else some (.bl (isIn f x), h)
/-- sorted by a key: what stands first in the pairs' seconds the most -/
def tupO : D → Option (List D)
  | .tup ds => some ds
  | .ktp ns => some (ns.map .int)
  | _ => none
def keyK (b : D) (i : Int) : Option Int :=
  if i < 0 then none else (tupO b).bind fun xs => (xs[i.toNat]? : Option D).bind fun k => (tupO k).bind fun ys => match (ys[1]? : Option D) with | some (.int a) => some (-a) | _ => none
def keysK (b : D) : List Int → Option (List (Int × Int))
  | [] => some []
  | i :: is => match keyK b i, keysK b is with | some k, some ks => some ((i, k) :: ks) | _, _ => none
def leK (a b : Int × Int) : Bool := decide (a.2 ≤ b.2)
def sortKD (live : Bool) (x b : D) (h : Hq) : Option (D × Hq) := match intsL h x with
  | some is => if is.length ≤ 1000 then (match keysK b is with | some ps => mkL live ((ps.mergeSort leK).map fun p => D.int p.1) h | none => none) else none
  | none => none
def biD (f : Bi) (live : Bool) (args : List D) (h : Hq) : Option (D × Hq) :=
  match f with
  | .len => un1 lenD args h
  | .int => un1 toIntD args h
  | .bool => un1 toBoolD args h
  | .abs => un1 absD args h
  | .max2 => un2 (int2 (fun _ _ => true) fun i j => if j > i then j else i) args h
  | .min2 => un2 (int2 (fun _ _ => true) fun i j => if j < i then j else i) args h
  | .max => un1 maxD args h
  | .min => un1 minD args h
  | .sum => un1 sumD args h
  | .all => un1 allD args h
  | .tuple => un1 tupleD args h
  | .tupleK => un1 tupleKD args h
  | .list => un1 (listD live) args h
  | .repr => un1 reprD args h
  | .divmod => un2 divmodD args h
  | .str => un1 strD args h
  | .sorted => un1 (sortedD live) args h
  | .ss => un1 (ssD live) args h
  | .sortK => un2 (sortKD live) args h
  | .isint => un1 (isD .isint) args h
  | .isbool => un1 (isD .isbool) args h
  | .isstr => un1 (isD .isstr) args h
  | .istup => un1 (isD .istup) args h
  | _ => none

inductive Kd where | lst | dct | tup | str | ktp
  deriving DecidableEq, Inhabited
def kdOf (h : Hq) : D → Option Kd
  | .ref n => match h[n]? with | some (.lst _) => some .lst | some (.dct _) => some .dct | _ => none
  | .tup _ => some .tup
  | .ktp _ => some .ktp
  | .str _ => some .str
  | _ => none
def meFits : Me → Kd → Bool
  | .append, .lst => true | .extend, .lst => true | .pop, .lst => true | .insert, .lst => true | .popAt, .lst => true | .popKey, .dct => true
  | .get2, .dct => true | .setdefault, .dct => true | .count, .ktp => true
  | .join, .str => true | .split, .str => true | _, _ => false
def meKind (m : Me) (x : D) (h : Hq) : Option Kd := match kdOf h x with
  | some k => if meFits m k then some k else none
  | none => none
def appendD (x : D) (args : List D) (h : Hq) : Option (D × Hq) := match x, args with
  | .ref n, [v] => match h[n]? with
    | some (.lst ds) => if ds.length < 16777216 then some (.non, hset h n (.lst (ds ++ [v]))) else none
    | _ => none
  | _, _ => none
def popD (x : D) (args : List D) (h : Hq) : Option (D × Hq) := match x, args with
  | .ref n, [] => match h[n]? with
    | some (.lst ds) => match ds[ds.length - 1]? with | some y => some (y, hset h n (.lst ds.dropLast)) | none => none
    | _ => none
  | _, _ => none
def popAtD (x : D) (args : List D) (h : Hq) : Option (D × Hq) := match x, args with
  | .ref n, [.int i] => match h[n]? with
    | some (.lst ds) => match L2.ixN ds.length i with
      | some j => match ds[j]? with | some y => if ds.length ≤ 16777216 then some (y, hset h n (.lst (ds.eraseIdx j))) else none | none => none
      | none => none
    | _ => none
  | _, _ => none
def popKeyD (x : D) (args : List D) (h : Hq) : Option (D × Hq) := match x, args with
  | .ref n, [k] => match h[n]? with
    | some (.dct kvs) => match keyOf k with
      | some k => match kget kvs k with | some v => some (v, hset h n (.dct (kdrop kvs k))) | none => none
      | none => none
    | _ => none
  | _, _ => none
def extendD (x : D) (args : List D) (h : Hq) : Option (D × Hq) := match x, args with
  | .ref n, [y] => match h[n]?, lstOf h y with
    | some (.lst ds), some es => if lineOk (ds.length + es.length) then some (.non, hset h n (.lst (ds ++ es))) else none
    | _, _ => none
  | _, _ => none
def get2D (x : D) (args : List D) (h : Hq) : Option (D × Hq) := match x, args with
  | .ref n, [k, d] => match h[n]? with
    | some (.dct kvs) => match keyOf k with | some k => some ((kget kvs k).getD d, h) | none => none
    | _ => none
  | _, _ => none
def insertD (x : D) (args : List D) (h : Hq) : Option (D × Hq) := match x, args with
  | .ref n, [.int i, y] => match h[n]? with
    | some (.lst ds) => if ds.length < 16777216 ∧ 0 ≤ i ∧ i < 2 ^ 63 then some (.non, hset h n (.lst (ds.take i.toNat ++ [y] ++ ds.drop i.toNat))) else none
    | _ => none
  | _, _ => none
def countD (x : D) (args : List D) (h : Hq) : Option (D × Hq) := match x, args with
  | .ktp ns, [.int i] => some (.int ((ns.countP fun n => n == i : Nat) : Int), h)
  | _, _ => none
def joinD (x : D) (args : List D) (h : Hq) : Option (D × Hq) := match x, args with
  | .str a, [y] => match (itemsOf h y).bind strsOf with
    | some ys => if (ys.map (·.length)).sum + ys.length * a.length ≤ 16777216 then some (.str (Txt.join a ys), h) else none
    | none => none
  | _, _ => none
def splitD (x : D) (args : List D) (h : Hq) : Option (D × Hq) := match x, args with
  | .str a, [.str b] => if (b.length == 0) = false ∧ a.length + 2 ≤ 16777216 then mkL false ((Txt.split a b).map .str) h else none
  | _, _ => none
def meD (k : Kd) (m : Me) (x : D) (args : List D) (h : Hq) : Option (D × Hq) :=
  match k, m with
  | .lst, .append => appendD x args h
  | .lst, .pop => popD x args h
  | .lst, .popAt => popAtD x args h
  | .dct, .popKey => popKeyD x args h
  | .lst, .extend => extendD x args h
  | .lst, .insert => insertD x args h
  | .dct, .get2 => get2D x args h
  | .ktp, .count => countD x args h
  | .str, .join => joinD x args h
  | .str, .split => splitD x args h
  | _, _ => none

/-! dicts with nested keys -/
def getND (x k d : D) (h : Hq) : Option (D × Hq) := match x with
  | .ref n => match h[n]? with
    | some (.dctN kvs) => match keyN k with | some q => some ((nget kvs q).getD d, h) | none => none
    | _ => none
  | _ => none
def setND (x k v : D) (h : Hq) : Option Hq := match x with
  | .ref n => match h[n]? with
    | some (.dctN kvs) => match keyN k with | some q => if kvs.length < 16777216 then some (hset h n (.dctN (nput kvs k q v))) else none | none => none
    | _ => none
  | _ => none
/-- dict(x).get(k, d) -/
def dgetD (x k d : D) (h : Hq) : Option (D × Hq) := match x with
  | .tup ds => (match pairs2 ds, keyOf k with
    | some kvs, some q => some ((kget (kvs.foldl (fun acc kv => kput acc kv.1 kv.2) []) q).getD d, h)
    | _, _ => none)
  | .lst ds => (match pairs2 ds, keyOf k with
    | some kvs, some q => some ((kget (kvs.foldl (fun acc kv => kput acc kv.1 kv.2) []) q).getD d, h)
    | _, _ => none)
  | _ => none
def dispND (n : Nat) (k v : D) (h : Hq) : Option (D × Hq) := match h[n]? with
  | some (.dctN []) => match keyN k with | some _ => some (.ref n, hset h n (.dctN [(k, v)])) | none => none
  | _ => none
def keysN (h : Hq) (x : D) : Option (List D) := match x with
  | .ref n => match h[n]? with | some (.dctN kvs) => some (kvs.map (·.1)) | _ => none
  | _ => none
def sndOf : D → Option D
  | .tup [_, y] => some y
  | _ => none
def sndsOf : List D → Option (List D)
  | [] => some []
  | d :: ds => match sndOf d, sndsOf ds with | some a, some b => some (a :: b) | _, _ => none
def listND (live : Bool) (x : D) (h : Hq) : Option (D × Hq) := match keysN h x with | some ds => mkL live ds h | none => none
def sndND (live : Bool) (x : D) (h : Hq) : Option (D × Hq) := match (keysN h x).bind sndsOf with | some ds => mkL live ds h | none => none

/-! ### targets, what is walked -/
mutual
def asg : Tg → D → Env' → Option Env'
  | .name i, d, s => if i < s.length then some (s.set i (some d)) else none
  | .tup ts, d, s => match d with | .tup ds => asgs ts ds s | _ => none
def asgs : Tgs → List D → Env' → Option Env'
  | .nil, [], s => some s
  | .cons t ts, d :: ds, s => match asg t d s with | some s' => asgs ts ds s' | none => none
  | _, _, _ => none
end
abbrev Watch := List (Nat × List D)
def stands (h : Hq) (w : Watch) : Bool := w.all fun p => match h[p.1]? with | some (.lst ds) => D.beqs ds p.2 | _ => false
def wipe' (s : Env') : List Nat → Env'
  | [] => s
  | v :: vs => (wipe' s vs).set v none

abbrev Its' := List D × Watch × Hq
def itD (x : D) (h : Hq) : Option Its' := match x with
  | .ref n => match h[n]? with | some (.lst ds) => some (ds, [(n, ds)], h) | _ => none
  | .str z => some (z.cps.toList.map fun c => .str ⟨#[c]⟩, [], h)
  | x => match itemsOf h x with | some ds => some (ds, [], h) | none => none
def rng1D (x : D) (h : Hq) : Option Its' := match x with
  | .int j => if -(2 ^ 62) ≤ j ∧ j < 2 ^ 62 then some (rangeL 0 j, [], h) else none
  | _ => none
def rng2D (x y : D) (h : Hq) : Option Its' := match x, y with
  | .int i, .int j => if -(2 ^ 62) ≤ i ∧ i < 2 ^ 62 ∧ -(2 ^ 62) ≤ j ∧ j < 2 ^ 62 then some (rangeL i j, [], h) else none
  | _, _ => none
def enumL (xs : List D) : List D := xs.zipIdx.map fun p => .tup [.int (p.2 : Nat), p.1]
def isStrD : D → Bool
  | .str _ => true
  | _ => false
/-- enumerate of a list or a tuple -/
def enD (x : D) (h : Hq) : Option Its' := if isStrD x then none else (itD x h).map fun p => (enumL p.1, p.2.1, p.2.2)
def watchOf (x : D) (xs : List D) : Watch := match x with | .ref n => [(n, xs)] | _ => []
def zipD (x y : D) (h : Hq) : Option Its' := match itemsOf h x, itemsOf h y with
  | some xs, some ys => some ((xs.zip ys).map fun p => .tup [p.1, p.2], watchOf x xs ++ watchOf y ys, h)
  | _, _ => none
/-- a comprehension's turns -/
def turns (w : Watch) (step : D → Hq → R (Option D × Hq)) : List D → List D → Hq → R (List D × Hq)
  | [], acc, h => if stands h w then .ok (acc, h) else .stuck
  | x :: xs, acc, h => if stands h w then (step x h).bind fun r => if lineOk (acc.length + 1) then turns w step xs (match r.1 with | some y => acc ++ [y] | none => acc) r.2 else .stuck else .stuck

/-- how a block ends -/
inductive Fl where
  | nx (s : Env') (h : Hq) | rt (d : D) (h : Hq) | bk (s : Env') (h : Hq) | ct (s : Env') (h : Hq)
  deriving Inhabited
def loopF (w : Watch) (step : D → Env' → Hq → R Fl) : List D → Env' → Hq → R Fl
  | [], s, h => if stands h w then .ok (.nx s h) else .stuck
  | x :: xs, s, h => if stands h w then (step x s h).bind (fun
    | .nx s h => loopF w step xs s h
    | .ct s h => loopF w step xs s h
    | .bk s h => .ok (.nx s h)
    | .rt d h => .ok (.rt d h)) else .stuck
def loopW (test : Env' → Hq → R (Bool × Hq)) (step : Env' → Hq → R Fl) : Nat → Env' → Hq → R Fl
  | 0, _, _ => .stuck
  | n + 1, s, h => (test s h).bind fun (b, h) => if b then (step s h).bind (fun
    | .nx s h => loopW test step n s h
    | .ct s h => loopW test step n s h
    | .bk s h => .ok (.nx s h)
    | .rt d h => .ok (.rt d h)) else .ok (.nx s h)

abbrev Fn := Nat → List D → Hq → R (D × Hq)

def testOf (r : R (D × Hq)) : R (Bool × Hq) := r.bind fun (x, h) => match truth h x with | some b => .ok (b, h) | none => .stuck

mutual
def ev (φ : Fn) : Ex → Env' → Hq → R (D × Hq)
  | .var i, s, h => match s[i]? with | some (some d) => .ok (d, h) | _ => .stuck
  | .const d, _, h => .ok (d, h)
  | .glob _ d, _, h => .ok (d, h)
  | .bin op live a b, s, h => (ev φ a s h).bind fun (x, h) => (ev φ b s h).bind fun (y, h) => lift (binop op live x y h)
  | .neg a, s, h => (ev φ a s h).bind fun (x, h) => lift (negD x h)
  | .notV a, s, h => (testOf (ev φ a s h)).bind fun (b, h) => .ok (.bl (!b), h)
  | .cmp op a b, s, h => (ev φ a s h).bind fun (x, h) => (ev φ b s h).bind fun (y, h) => lift (cmpop op x y h)
  | .cmp2 op op' a b c, s, h => (ev φ a s h).bind fun (x, h) => (ev φ b s h).bind fun (y, h) => (lift (cmpop op x y h)).bind fun (z, h) =>
      match z with
      | .bl true => (ev φ c s h).bind fun (u, h) => lift (cmpop op' y u h)
      | .bl false => .ok (.bl false, h)
      | _ => .stuck
  | .andV a b, s, h => (ev φ a s h).bind fun (x, h) => match truth h x with | some true => ev φ b s h | some false => .ok (x, h) | none => .stuck
  | .orV a b, s, h => (ev φ a s h).bind fun (x, h) => match truth h x with | some false => ev φ b s h | some true => .ok (x, h) | none => .stuck
  | .ife t a b, s, h => (testOf (ev φ t s h)).bind fun (c, h) => if c then ev φ a s h else ev φ b s h
  | .tup es, s, h => (evs φ es s h).bind fun (ds, h) => lift (mkT ds h)
  | .tupK es, s, h => (evs φ es s h).bind fun (ds, h) => lift (mkK ds h)
  | .lst live es, s, h => (evs φ es s h).bind fun (ds, h) => lift (mkL live ds h)
  | .dct live es, s, h => (evs φ es s h).bind fun (ds, h) => lift (mkD live ds h)
  | .comp live tg it ifs elt own, s, h => (evIt φ it s h).bind fun (xs, w, h) =>
      (turns w (fun x h => match asg tg x (wipe' s own) with
        | some s' => hush ((evIf φ ifs s' h).bind fun (b, h) => if b then (ev φ elt s' h).bind fun (y, h) => .ok (some y, h) else .ok (none, h))
        | none => .stuck) xs [] h).bind fun (ds, h) => lift (mkL live ds h)
  | .ix a i, s, h => (ev φ a s h).bind fun (x, h) => (ev φ i s h).bind fun (y, h) => lift (ixD x y h)
  | .slice a lo hi, s, h => (ev φ a s h).bind fun (x, h) => (evO φ lo s h).bind fun (l, h) => (evO φ hi s h).bind fun (u, h) => lift (sliceD x l u h)
  | .rev a, s, h => (ev φ a s h).bind fun (x, h) => lift (revD x h)
  | .call f args, s, h => (evs φ args s h).bind fun (ds, h) => φ f ds h
  | .callK f perm args, s, h => (evs φ args s h).bind fun (ds, h) => φ f (perm.filterMap fun i => ds[i]?) h
  | .callN f args, s, h => (evs φ args s h).bind fun (ds, h) => hush (φ f ds h)
  | .callNK f perm args, s, h => (evs φ args s h).bind fun (ds, h) => hush (φ f (perm.filterMap fun i => ds[i]?) h)
  | .bi f live args, s, h => (evs φ args s h).bind fun (ds, h) => lift (biD f live ds h)
  | .me m o args, s, h => (ev φ o s h).bind fun (x, h) => match meKind m x h with
    | some k => (evs φ args s h).bind fun (ds, h) => lift (meD k m x ds h)
    | none => .stuck
  | .lrng live it, s, h => (evIt φ it s h).bind fun (xs, _, h) => lift (mkL live xs h)
  | .trng it, s, h => (evIt φ it s h).bind fun (xs, _, h) => lift (mkT xs h)
  | .dnew tk, _, h => .ok (.ref h.length, h ++ [if tk then .dctT [] else .dct []])
  | .newN, _, h => .ok (.ref h.length, h ++ [.dctN []])
  | .getN o k d, s, h => (ev φ o s h).bind fun (x, h) => if isN h x then (ev φ k s h).bind fun (k, h) => (ev φ d s h).bind fun (d, h) => lift (getND x k d h) else .stuck
  | .dget o k d, s, h => (ev φ o s h).bind fun (x, h) => (ev φ k s h).bind fun (k, h) => (ev φ d s h).bind fun (d, h) => lift (dgetD x k d h)
  | .dispN k v, s, h0 => (ev φ k s (h0 ++ [.dctN []])).bind fun (k, h) => (ev φ v s h).bind fun (v, h) => lift (dispND h0.length k v h)
  | .listN live o, s, h => (ev φ o s h).bind fun (x, h) => lift (listND live x h)
  | .sndN live _ b o, s, h => if b < s.length then (ev φ o s h).bind fun (x, h) => lift (sndND live x h) else .stuck
  | .star _, _, _ => .stuck
def evs (φ : Fn) : Exs → Env' → Hq → R (List D × Hq)
  | .nil, _, h => .ok ([], h)
  | .cons e es, s, h => (ev φ e s h).bind fun (x, h) => (evs φ es s h).bind fun (xs, h) => .ok (x :: xs, h)
def evO (φ : Fn) : Exo → Env' → Hq → R (Option Int × Hq)
  | .no, _, h => .ok (none, h)
  | .yes e, s, h => (ev φ e s h).bind fun (x, h) => match x with | .int i => .ok (some i, h) | _ => .stuck
def evIf (φ : Fn) : Exs → Env' → Hq → R (Bool × Hq)
  | .nil, _, h => .ok (true, h)
  | .cons e .nil, s, h => testOf (ev φ e s h)
  | .cons _ (.cons _ _), _, _ => .stuck
def evIt (φ : Fn) : It → Env' → Hq → R (List D × Watch × Hq)
  | .ex e, s, h => (ev φ e s h).bind fun (x, h) => lift (itD x h)
  | .range1 a, s, h => (ev φ a s h).bind fun (x, h) => lift (rng1D x h)
  | .range2 a b, s, h => (ev φ a s h).bind fun (x, h) => (ev φ b s h).bind fun (y, h) => lift (rng2D x y h)
  | .enum (.ex e), s, h => (ev φ e s h).bind fun (x, h) => lift (enD x h)
  | .enum _, _, _ => .stuck
  | .zip a b, s, h => (ev φ a s h).bind fun (x, h) => (ev φ b s h).bind fun (y, h) => lift (zipD x y h)
end

/-- what a try makes of its body's end -/
def catchR (hs : List Hand) : R Fl → R Fl
  | .exc (.exn c ds) h => match hs.find? (fun t => t.cls == c) with
    | some t => if t.fld == ds.isEmpty then .stuck else (lift (mkL false (.str t.tag :: (if t.fld then ds.take 1 else []) ++ [.bl true]) h)).bind fun (x, h) => .ok (.rt x h)
    | none => .exc (.exn c ds) h
  | r => r
/-- fuel of a while -/
def fuel : Nat := 4294967296
mutual
def exS (φ : Fn) : Sm → Env' → Hq → R Fl
  | .set tg e, s, h => (ev φ e s h).bind fun (x, h) => match asg tg x s with | some s' => .ok (.nx s' h) | none => .stuck
  | .par is es, s, h => (evs φ es s h).bind fun (ds, h) => if is.length = ds.length ∧ is.all (· < s.length) then .ok (.nx ((is.zip ds).foldl (fun s p => s.set p.1 (some p.2)) s) h) else .stuck
  | .setIx o i e, s, h => (ev φ e s h).bind fun (v, h) => (hush (ev φ o s h)).bind fun (x, h) => (hush (ev φ i s h)).bind fun (k, h) => (lift (setD x k v h)).bind fun h => .ok (.nx s h)
  | .setN o i e, s, h => (ev φ e s h).bind fun (v, h) => (hush (ev φ o s h)).bind fun (x, h) => (hush (ev φ i s h)).bind fun (k, h) => (lift (setND x k v h)).bind fun h => .ok (.nx s h)
  | .expr e, s, h => (ev φ e s h).bind fun (_, h) => .ok (.nx s h)
  | .ret e, s, h => (ev φ e s h).bind fun (x, h) => .ok (.rt x h)
  | .retN, _, h => .ok (.rt .non h)
  | .ite t a b, s, h => (testOf (ev φ t s h)).bind fun (c, h) => if c then exB φ a s h else exB φ b s h
  | .for tg it body, s, h => (evIt φ it s h).bind fun (xs, w, h) => loopF w (fun x s h => match asg tg x s with | some s' => exB φ body s' h | none => .stuck) xs s h
  | .while t body, s, h => loopW (fun s h => testOf (ev φ t s h)) (fun s h => exB φ body s h) fuel s h
  | .brk, s, h => .ok (.bk s h)
  | .cont, s, h => .ok (.ct s h)
  | .pass, s, h => .ok (.nx s h)
  | .never, _, _ => .stuck
  | .raise c es, s, h => (evs φ es s h).bind fun (ds, h) => .exc (.exn c ds) h
  | .tryR body hs, s, h => catchR hs (exB φ body s h)
def exB (φ : Fn) : Sms → Env' → Hq → R Fl
  | .nil, s, h => .ok (.nx s h)
  | .cons a r, s, h => (exS φ a s h).bind fun
    | .nx s h => exB φ r s h
    | f => .ok f
end

/-! ### defs -/
inductive Mode where | pure | trim | live
  deriving DecidableEq, Inhabited
structure Def where
  mode : Mode
  nps : Nat
  names : List Str
  body : Sms

def endOf : Fl → R (D × Hq)
  | .nx _ h => .ok (.non, h)
  | .rt d h => .ok (d, h)
  | _ => .stuck
mutual
/-- cells from n on are in nothing below -/
def D.under (n : Nat) : D → Bool
  | .ref k => decide (k < n)
  | .tup ds => D.unders n ds
  | .lst ds => D.unders n ds
  | .dct ds => D.unders n ds
  | .exn _ ds => D.unders n ds
  | _ => true
def D.unders (n : Nat) : List D → Bool
  | [] => true
  | d :: ds => D.under n d && D.unders n ds
end

def Ob.under (n : Nat) : Ob → Bool
  | .lst ds => D.unders n ds
  | .dct kvs => kvs.all fun p => p.2.under n
  | .dctT kvs => kvs.all fun p => p.2.under n
  | .dctN kvs => kvs.all fun p => p.1.under n && p.2.under n
  | .ins _ fs => fs.all fun p => p.2.under n
  | .dead => true
mutual
/-- melting only what is from n on -/
def D.thaw (n : Nat) (g : List D → Option (List D)) (h : Hq) : D → Option D
  | .ref k => if k < n then some (.ref k) else match h[k]? with
    | some (.lst ds) => (g ds).map .lst
    | _ => none
  | .tup ds => (D.thaws n g h ds).map .tup
  | .lst ds => (D.thaws n g h ds).map .lst
  | .dct ds => (D.thaws n g h ds).map .dct
  | .exn c ds => (D.thaws n g h ds).map (.exn c)
  | d => some d
def D.thaws (n : Nat) (g : List D → Option (List D)) (h : Hq) : List D → Option (List D)
  | [] => some []
  | d :: ds => match D.thaw n g h d, D.thaws n g h ds with | some a, some b => some (a :: b) | _, _ => none
end
def thawN (n : Nat) (h : Hq) : Nat → List D → Option (List D)
  | 0, ds => if D.unders n ds then some ds else none
  | k + 1, ds => D.thaws n (thawN n h k) h ds
def thaw1 (n : Nat) (h : Hq) (d : D) : Option D := match thawN n h 3 [d] with | some [x] => some x | _ => none

/-- what leaves a def that changes nothing of its caller's -/
def onExc (h : Hq) : R (D × Hq) → R (D × Hq)
  | .exc e _ => if e.pure then .exc e h else .stuck
  | r => r
def runDef (φ : Fn) (d : Def) (args : List D) (h : Hq) : R (D × Hq) :=
  if args.length ≠ d.nps then .stuck else
  let s : Env' := args.map some ++ List.replicate (d.names.length - d.nps) none
  match d.mode with
  | .live => (exB φ d.body s h).bind endOf
  | .trim => ((exB φ d.body s h).bind endOf).bind fun (x, h') => match thaw1 h.length h' x with
    | some y => if (h'.take h.length).all (Ob.under h.length) then .ok (y, h'.take h.length) else .stuck
    | none => .stuck
  | .pure => if D.pures args then onExc h (((exB φ d.body s []).bind endOf).bind fun (x, h') => match thaw1 0 h' x with
    | some y => .ok (y, h)
    | none => .stuck) else .stuck

/-- the defs of a text, by their names -/
def run (tbl : List (Nat × Def)) : Nat → Fn
  | 0, _, _, _ => .stuck
  | n + 1, f, args, h => match tbl.lookup f with
    | some d => runDef (run tbl n) d args h
    | none => .stuck
end FF

/-! FFRel: data and cells beside the layer's values and heaps. -/
namespace FF
open PySem PySem.Spec PyProof.Rows L2

section
variable (K : PySem.W.Frag) (Fr ρ : List Addr) (H : Hp)
/-- an object that stays -/
def Kept (a : Addr) (o : HO) : Prop := Rd H a o ∧ a ∉ ρ
def KTup (a : Addr) (xs : List V) : Prop :=
  ∃ (o : Obj) (its : Array Value) (n : Nat), K.lookup a = some o ∧ o.cls = .type "tuple" ∧ o.data = .seq its n ∧ its.size ≤ sizeLine ∧ Vals xs its.toList
/-- a tuple that is known to be plain -/
def FTup (a : Addr) (xs : List V) : Prop := (∃ o : Obj, H a = some (.frz o (.tup xs)) ∧ o.dict = none) ∧ a ∉ ρ
/-- .. or stays in the module -/
def PTup (a : Addr) (xs : List V) : Prop := FTup ρ H a xs ∨ (KTup K a xs ∧ ∃ o : Obj, K.lookup a = some o ∧ o.cls = .type "tuple" ∧ o.dict = none)
def KLst (a : Addr) (xs : List V) : Prop :=
  ∃ (o : Obj) (its : Array Value) (n : Nat), K.lookup a = some o ∧ o.cls = .type "list" ∧ o.dict = none ∧ o.data = .seq its n ∧ its.size ≤ sizeLine ∧ Vals xs its.toList
mutual
def RD : D → V → Prop
  | .non, v => v = .non
  | .bl b, v => v = .bl b
  | .int i, v => v = .int i
  | .str s, v => v = .str s
  | .tup ds, v => ∃ a vs, v = .ref a ∧ H a = some (.tup vs) ∧ a ∉ ρ ∧ RDs ds vs
  | .lst ds, v => ∃ a vs, v = .ref a ∧ H a = some (.lst vs) ∧ a ∉ ρ ∧ a ∉ Fr ∧ RDs ds vs
  | .scr ns, v => ∃ a, v = .ref a ∧ ((Kept ρ H a (.lst (ns.map V.int)) ∧ a ∉ Fr) ∨ KLst K a (ns.map V.int))
  | .ktp ns, v => ∃ a, v = .ref a ∧ PTup K ρ H a (ns.map V.int)
  | .ref n, v => ∃ a, v = .ref a ∧ ρ[n]? = some a
  | .dct _, _ => False
  | .exn _ _, _ => False
def RDs : List D → List V → Prop
  | [], vs => vs = []
  | d :: ds, vs => ∃ v r, vs = v :: r ∧ RD d v ∧ RDs ds r
end
mutual
/-- no texts in the key: its hash is the same in all worlds -/
def bareK : NestedKey → Bool
  | .none => true
  | .num _ => true
  | .text _ => false
  | .tup ks => bareKs ks
def bareKs : List NestedKey → Bool
  | [] => true
  | k :: ks => bareK k && bareKs ks
end
/-- an entry of a dict with nested keys -/
def entN (w : World) (x : NestedKey × Addr × Value) : DictEntry := ⟨x.1.hash w, .ref x.2.1, x.2.2⟩
def PN : List (NestedKey × Addr × V) → List (NestedKey × Addr × Value) → Prop := Paired fun p q => p.1 = q.1 ∧ p.2.1 = q.2.1 ∧ RelV p.2.2 q.2.2
/-- the dict at a with the entries xs -/
def NDp (a : Addr) (xs : List (NestedKey × Addr × V)) (h : Heap) : Prop :=
  (a == sysModules) = false ∧ xs.length ≤ sizeLine ∧ ∃ ys, PN xs ys ∧ ∃ o es ep, h.get? a = some o ∧ o.ExactDict ∧ o.data = .dict es ep ∧ (∀ w, es.toList = ys.map (entN w)) ∧ (ys.map (·.1)).Nodup
def NDict (a : Addr) (xs : List (NestedKey × Addr × V)) : HO := .ext (NDp a xs)
theorem ndict_tb {a : Addr} {xs : List (NestedKey × Addr × V)} {ps : Array Value} : NDict a xs ≠ .tbl ps := fun z => by unfold NDict at z; cases z
theorem ndict_code {a : Addr} {xs : List (NestedKey × Addr × V)} {q : Str} : NDict a xs ≠ LamX.CodeO a q := fun z => by
  unfold NDict LamX.CodeO at z
  have z := congrFun (HO.ext.inj z) { objs := Array.replicate (a + 1) { cls := .none, data := .fields #[.none, .str q 0] } }
  have g : ({ objs := Array.replicate (a + 1) { cls := .none, data := .fields #[.none, .str q 0] } } : Heap).get? a = some { cls := .none, data := .fields #[.none, .str q 0] } := by
    unfold Heap.get?
    simp [Obj.isFreed]
  have y : NDp a xs { objs := Array.replicate (a + 1) { cls := .none, data := .fields #[.none, .str q 0] } } := by
    rw [z]
    exact ⟨_, _, 0, g, rfl, rfl⟩
  obtain ⟨_, _, ys, _, o, es, ep, e, _, d, _⟩ := y
  rw [g] at e
  cases e
  cases d
/-- data and what stands in the dict -/
def NR (kvs : List (D × D)) (xs : List (NestedKey × Addr × V)) : Prop :=
  kvs.map (fun p => keyN p.1) = xs.map (fun x => some x.1) ∧ RDs K Fr ρ H (kvs.map (·.1)) (xs.map fun x => V.ref x.2.1) ∧ RDs K Fr ρ H (kvs.map (·.2)) (xs.map (·.2.2))
def KR {κ : Type} (kvs : List (κ × D)) (vs : List (κ × V)) : Prop := kvs.map (·.1) = vs.map (·.1) ∧ RDs K Fr ρ H (kvs.map (·.2)) (vs.map (·.2))
def OR : Ob → Addr → Prop
  | .lst ds, a => ∃ vs, H a = some (.lst vs) ∧ RDs K Fr ρ H ds vs
  | .dct kvs, a => ∃ vs, H a = some (.dK vs) ∧ KR K Fr ρ H kvs vs
  | .dctT kvs, a => ∃ vs, H a = some (.dT vs) ∧ KR K Fr ρ H kvs vs
  | .dctN kvs, a => ∃ xs, H a = some (NDict a xs) ∧ NR K Fr ρ H kvs xs
  | _, _ => False
end
def isTb : HO → Bool
  | .tbl _ => true
  | _ => false
def isCl : HO → Bool
  | .lst _ => true
  | .dK _ => true
  | .dT _ => true
  | _ => false
/-- what may stand at a cell's address -/
def ClO (a : Addr) (u : HO) : Prop := isCl u = true ∨ ∃ xs, u = NDict a xs
/-- the defs that make lambdas -/
def lamDefs : List Str := ["floor_pieces"]
/-- the code objects of the defs that make lambdas, their tables, the lambdas' names -/
def lamTabs (K : PySem.W.Frag) : List (Addr × Addr × Str) := K.filterMap fun e => match e.2.data with
  | .fields vs => (match (vs[1]? : Option Value) with
    | some (.str n _) => if lamDefs.contains n then (match (vs[11]? : Option Value) with
      | some (.ref P) => some (e.1, P, n ++ ".<locals>." ++ "<lambda>")
      | _ => some (e.1, 0, "")) else none
    | _ => none)
  | _ => none
def LamTab (K : PySem.W.Frag) (P : Addr) (q : Str) : Prop := ∃ c, (c, P, q) ∈ lamTabs K
structure HR (K : PySem.W.Frag) (Fr ρ : List Addr) (h : Hq) (H : Hp) : Prop where
  len : ρ.length = h.length
  nd : ρ.Nodup
  fr' : ∀ a ∈ Fr, ∃ o, H a = some o ∧ isTb o = false
  tb : ∀ P q, LamTab K P q → LamX.TabS H P q
  dj : ∀ a ∈ ρ, a ∉ Fr
  at' : ∀ (n : Nat) (o : Ob), h[n]? = some o → ∃ a, ρ[n]? = some a ∧ OR K Fr ρ H o a
structure SR (K : PySem.W.Frag) (Fr ρ : List Addr) (H : Hp) (s : Env') (σ : L2.St) : Prop where
  len : s.length = σ.length
  get : ∀ (i : Nat) d, s[i]? = some (some d) → ∃ v, σ[i]? = some (some v) ∧ RD K Fr ρ H d v
/-- what comes later: more cells, what stays stays -/
structure Ext (ρ : List Addr) (H : Hp) (ρ' : List Addr) (H' : Hp) : Prop where
  more : ∃ m, ρ' = ρ ++ m ∧ ∀ a ∈ m, ∀ o, H a = some o → isTb o = true
  keep : ∀ (a : Addr) (o : HO) (_ : a ∉ ρ) (_ : H a = some o) (_ : isTb o = false := by rfl), H' a = some o

section
variable {K : PySem.W.Frag} {Fr ρ ρ' ρ2 : List Addr} {H H' H2 : Hp} {h h' : Hq} {s : Env'} {σ : L2.St}
theorem HR.fr (r : HR K Fr ρ h H) : ∀ a ∈ Fr, ∃ o, H a = some o := fun a ha => let ⟨o, e, _⟩ := r.fr' a ha; ⟨o, e⟩
theorem Ext.refl : Ext ρ H ρ H := ⟨⟨[], by simp, by simp⟩, fun _ _ _ e _ => e⟩
theorem Ext.out (x : Ext ρ H ρ' H') {a : Addr} {o : HO} (n : a ∉ ρ) (e : H a = some o) (ht : isTb o = false := by rfl) : a ∉ ρ' := by
  obtain ⟨m, rfl, hm⟩ := x.more
  intro z
  rcases List.mem_append.mp z with z | z
  · exact n z
  · have := hm a z o e; rw [ht] at this; cases this
theorem Ext.trans (x : Ext ρ H ρ' H') (y : Ext ρ' H' ρ2 H2) (hρ : ∀ a ∈ ρ, ∃ o, H' a = some o ∧ isTb o = false) : Ext ρ H ρ2 H2 := by
  refine ⟨?_, fun a o n e t => y.keep a o (x.out n e t) (x.keep a o n e t) t⟩
  obtain ⟨m, e1, hm⟩ := x.more
  obtain ⟨m2, e2, hm2⟩ := y.more
  refine ⟨m ++ m2, by rw [e2, e1, List.append_assoc], fun a ha o q => ?_⟩
  rcases List.mem_append.mp ha with z | z
  · exact hm a z o q
  · cases ht : isTb o with
    | true => rfl
    | false =>
      exfalso
      by_cases n : a ∈ ρ
      · obtain ⟨o', e, t'⟩ := hρ a n
        have := hm2 a z o' e
        rw [t'] at this; cases this
      · have := hm2 a z o (x.keep a o n q ht)
        rw [ht] at this; cases this
theorem Ext.get (x : Ext ρ H ρ' H') {n : Nat} {a : Addr} (e : ρ[n]? = some a) : ρ'[n]? = some a := by
  obtain ⟨m, rfl, _⟩ := x.more
  rw [List.getElem?_append_left (List.getElem?_eq_some_iff.mp e).1]
  exact e
theorem PTup.mono {a : Addr} {xs : List V} (x : Ext ρ H ρ' H') (k : PTup K ρ H a xs) : PTup K ρ' H' a xs :=
  k.imp (fun k => ⟨let ⟨o, e, d⟩ := k.1; ⟨o, x.keep a _ k.2 e, d⟩, let ⟨_, e, _⟩ := k.1; x.out k.2 e⟩) id
theorem PTup.sqT {a : Addr} {xs : List V} (k : PTup K ρ H a xs) : SqT K H a xs := by
  rcases k with ⟨⟨o, e, _⟩, _⟩ | ⟨k, _⟩
  · exact .inl (.inr ⟨o, e⟩)
  · exact .inr k
theorem Kept.mono {a : Addr} {o : HO} (x : Ext ρ H ρ' H') (k : Kept ρ H a o) (ht : isTb o = false := by rfl) : Kept ρ' H' a o := by
  obtain ⟨r, n⟩ := k
  rcases r with r | ⟨ob, r⟩
  · exact ⟨.inl (x.keep a _ n r ht), x.out n r ht⟩
  · exact ⟨.inr ⟨ob, x.keep a _ n r⟩, x.out n r⟩
mutual
theorem RD.mono (x : Ext ρ H ρ' H') : ∀ (d : D) (v : V), RD K Fr ρ H d v → RD K Fr ρ' H' d v
  | .non, _, r => r
  | .bl _, _, r => r
  | .int _, _, r => r
  | .str _, _, r => r
  | .tup ds, _, r => by
    unfold RD at r ⊢
    obtain ⟨a, vs, e, k, n, q⟩ := r
    exact ⟨a, vs, e, x.keep a _ n k, x.out n k, RDs.mono x ds vs q⟩
  | .lst ds, _, r => by
    unfold RD at r ⊢
    obtain ⟨a, vs, e, k, n, nf, q⟩ := r
    exact ⟨a, vs, e, x.keep a _ n k, x.out n k, nf, RDs.mono x ds vs q⟩
  | .scr ns, _, r => by
    unfold RD at r ⊢
    obtain ⟨a, e, k⟩ := r
    exact ⟨a, e, k.imp (fun k => ⟨Kept.mono x k.1, k.2⟩) id⟩
  | .ktp ns, _, r => by unfold RD at r ⊢; obtain ⟨a, e, k⟩ := r; exact ⟨a, e, k.mono x⟩
  | .ref n, _, r => by
    unfold RD at r ⊢
    obtain ⟨a, e, k⟩ := r
    exact ⟨a, e, x.get k⟩
  | .dct _, _, r => r
  | .exn _ _, _, r => r
theorem RDs.mono (x : Ext ρ H ρ' H') : ∀ (ds : List D) (vs : List V), RDs K Fr ρ H ds vs → RDs K Fr ρ' H' ds vs
  | [], _, r => r
  | d :: ds, _, r => by
    unfold RDs at r ⊢
    obtain ⟨v, t, e, k, q⟩ := r
    exact ⟨v, t, e, RD.mono x d v k, RDs.mono x ds t q⟩
end
theorem KR.mono {κ : Type} {kvs : List (κ × D)} {vs : List (κ × V)} (x : Ext ρ H ρ' H') (r : KR K Fr ρ H kvs vs) : KR K Fr ρ' H' kvs vs := ⟨r.1, RDs.mono x _ _ r.2⟩
theorem NR.mono {kvs : List (D × D)} {xs : List (NestedKey × Addr × V)} (x : Ext ρ H ρ' H') (r : NR K Fr ρ H kvs xs) : NR K Fr ρ' H' kvs xs := ⟨r.1, RDs.mono x _ _ r.2.1, RDs.mono x _ _ r.2.2⟩
theorem SR.mono (x : Ext ρ H ρ' H') (r : SR K Fr ρ H s σ) : SR K Fr ρ' H' s σ :=
  ⟨r.len, fun i d e => let ⟨v, e1, q⟩ := r.get i d e; ⟨v, e1, RD.mono x d v q⟩⟩
theorem OR.tracked {o : Ob} {a : Addr} (r : OR K Fr ρ H o a) : ∃ u, H a = some u := by
  cases o with
  | lst ds => obtain ⟨vs, e, _⟩ := r; exact ⟨_, e⟩
  | dct ds => obtain ⟨vs, e, _⟩ := r; exact ⟨_, e⟩
  | dctT ds => obtain ⟨vs, e, _⟩ := r; exact ⟨_, e⟩
  | dctN ds => obtain ⟨vs, e, _⟩ := r; exact ⟨_, e⟩
  | ins _ _ => exact r.elim
  | dead => exact r.elim
theorem OR.cl {o : Ob} {a : Addr} (r : OR K Fr ρ H o a) : ∃ u, H a = some u ∧ ClO a u := by
  cases o with
  | lst ds => obtain ⟨vs, e, _⟩ := r; exact ⟨_, e, .inl rfl⟩
  | dct ds => obtain ⟨vs, e, _⟩ := r; exact ⟨_, e, .inl rfl⟩
  | dctT ds => obtain ⟨vs, e, _⟩ := r; exact ⟨_, e, .inl rfl⟩
  | dctN ds => obtain ⟨xs, e, _⟩ := r; exact ⟨_, e, .inr ⟨xs, rfl⟩⟩
  | ins _ _ => exact r.elim
  | dead => exact r.elim
theorem HR.cl (r : HR K Fr ρ h H) {a : Addr} (ha : a ∈ ρ) : ∃ u, H a = some u ∧ ClO a u := by
  obtain ⟨n, hn, e⟩ := List.getElem_of_mem ha
  have hl : n < h.length := by rw [← r.len]; exact hn
  obtain ⟨b, e1, q⟩ := r.at' n h[n] (List.getElem?_eq_getElem hl)
  rw [List.getElem?_eq_getElem hn, e] at e1
  cases e1
  exact q.cl
theorem isCl_tb {a : Addr} {u : HO} (h : ClO a u) : isTb u = false := by
  rcases h with h | ⟨xs, rfl⟩
  · cases u <;> first | rfl | cases h
  · rfl
/-- the tables stay where neither they nor the code objects are written -/
theorem tabS_set {P : Addr} {q : Str} {a : Addr} {o u : HO} (t : LamX.TabS H P q) (e : H a = some u) (hu : ClO a u) : LamX.TabS (upd H a o) P q := by
  obtain ⟨ps, h1, h2, h3⟩ := t
  refine ⟨ps, ?_, h2, fun pos cv hc => ?_⟩
  · have : P ≠ a := by
      rintro rfl
      rw [h1] at e
      rcases hu with hu | ⟨xs, hu⟩
      · cases e; cases hu
      · exact ndict_tb (hu.symm.trans (Option.some.inj e).symm)
    rw [upd_ne this]; exact h1
  · obtain ⟨c, e1, e2⟩ := h3 pos cv hc
    refine ⟨c, e1, ?_⟩
    have : c ≠ a := by
      rintro rfl
      rw [e2] at e
      rcases hu with hu | ⟨xs, hu⟩
      · unfold LamX.CodeO at e; cases e; cases hu
      · exact ndict_code (hu.symm.trans (Option.some.inj e).symm)
    rw [upd_ne this]; exact e2
theorem tabS_new {P : Addr} {q : Str} {p : Addr} {o : HO} (t : LamX.TabS H P q) (hp : H p = none) : LamX.TabS (upd H p o) P q :=
  t.ext fun b o e => by rw [upd_ne (ne_of_none e hp)]; exact e
theorem HR.tracked (r : HR K Fr ρ h H) {a : Addr} (ha : a ∈ ρ) : ∃ u, H a = some u := by
  obtain ⟨n, hn, e⟩ := List.getElem_of_mem ha
  have hl : n < h.length := by rw [← r.len]; exact hn
  obtain ⟨b, e1, q⟩ := r.at' n h[n] (List.getElem?_eq_getElem hl)
  rw [List.getElem?_eq_getElem hn, e] at e1
  cases e1
  exact q.tracked
theorem HR.fresh (r : HR K Fr ρ h H) {p : Addr} (hp : H p = none) : p ∉ ρ ∧ p ∉ Fr := by
  refine ⟨fun z => ?_, fun z => ?_⟩
  · obtain ⟨u, e⟩ := r.tracked z; rw [hp] at e; cases e
  · obtain ⟨u, e⟩ := r.fr p z; rw [hp] at e; cases e
theorem Ext.step (r : HR K Fr ρ' h' H') (x : Ext ρ H ρ' H') (y : Ext ρ' H' ρ2 H2) : Ext ρ H ρ2 H2 := x.trans y fun a ha => by
  obtain ⟨m, e, _⟩ := x.more
  obtain ⟨u, e1, c⟩ := r.cl (a := a) (by rw [e]; exact List.mem_append_left _ ha)
  exact ⟨u, e1, isCl_tb c⟩
/-- the same cells, more objects -/
theorem ext_new {p : Addr} {o : HO} (hp : H p = none) : Ext ρ H ρ (upd H p o) := by
  refine ⟨⟨[], by simp, by simp⟩, fun a u _ e _ => ?_⟩
  rw [upd_ne (ne_of_none e hp)]; exact e
theorem OR.mono {o : Ob} {a : Addr} (x : Ext ρ H ρ' H') (hk : H' a = H a) (r : OR K Fr ρ H o a) : OR K Fr ρ' H' o a := by
  cases o with
  | lst ds => obtain ⟨vs, e, q⟩ := r; exact ⟨vs, hk.trans e, RDs.mono x _ _ q⟩
  | dct ds => obtain ⟨vs, e, q⟩ := r; exact ⟨vs, hk.trans e, q.mono x⟩
  | dctT ds => obtain ⟨vs, e, q⟩ := r; exact ⟨vs, hk.trans e, q.mono x⟩
  | dctN ds => obtain ⟨vs, e, q⟩ := r; exact ⟨vs, hk.trans e, q.mono x⟩
  | ins _ _ => exact r.elim
  | dead => exact r.elim
theorem HR.new (r : HR K Fr ρ h H) {p : Addr} {o : HO} (hp : H p = none) : HR K Fr ρ h (upd H p o) := by
  refine ⟨r.len, r.nd, fun a ha => ?_, fun P q l => tabS_new (r.tb P q l) hp, r.dj, fun n u e => ?_⟩
  · obtain ⟨u, e, ht⟩ := r.fr' a ha
    exact ⟨u, by rw [upd_ne (ne_of_none e hp)]; exact e, ht⟩
  · obtain ⟨a, e1, q⟩ := r.at' n u e
    obtain ⟨u', e'⟩ := q.tracked
    exact ⟨a, e1, q.mono (ext_new hp) (upd_ne (ne_of_none e' hp))⟩
/-- a new cell -/
theorem ext_cell {p : Addr} {o : HO} (hp : H p = none) : Ext ρ H (ρ ++ [p]) (upd H p o) := by
  refine ⟨⟨[p], rfl, fun a ha o e => ?_⟩, fun a u _ e _ => ?_⟩
  · rw [List.mem_singleton] at ha; subst ha; rw [hp] at e; cases e
  · rw [upd_ne (ne_of_none e hp)]; exact e
theorem HR.cell (r : HR K Fr ρ h H) {p : Addr} {o : HO} {b : Ob} (hp : H p = none) (q : OR K Fr (ρ ++ [p]) (upd H p o) b p) : HR K Fr (ρ ++ [p]) (h ++ [b]) (upd H p o) := by
  obtain ⟨f1, f2⟩ := r.fresh hp
  refine ⟨by simp [r.len], ?_, fun a ha => ?_, fun P q l => tabS_new (r.tb P q l) hp, fun a ha => ?_, fun n u e => ?_⟩
  · rw [List.nodup_append]
    exact ⟨r.nd, by simp, fun a ha b hb => by rw [List.mem_singleton] at hb; subst hb; rintro rfl; exact f1 ha⟩
  · obtain ⟨u, e, ht⟩ := r.fr' a ha
    exact ⟨u, by rw [upd_ne (ne_of_none e hp)]; exact e, ht⟩
  · rcases List.mem_append.mp ha with z | z
    · exact r.dj a z
    · rw [List.mem_singleton] at z; subst z; exact f2
  · by_cases hn : n < h.length
    · rw [List.getElem?_append_left hn] at e
      obtain ⟨a, e1, q1⟩ := r.at' n u e
      obtain ⟨u', e'⟩ := q1.tracked
      exact ⟨a, (ext_cell (o := o) hp).get e1, q1.mono (ext_cell hp) (upd_ne (ne_of_none e' hp))⟩
    · have hn' : n = h.length := by
        have := (List.getElem?_eq_some_iff.mp e).1
        simp at this; omega
      subst hn'
      rw [List.getElem?_append_right (Nat.le_refl _)] at e
      simp at e; subst e
      refine ⟨p, ?_, q⟩
      rw [← r.len, List.getElem?_append_right (Nat.le_refl _)]; simp
/-- a cell written -/
theorem ext_set (r : HR K Fr ρ h H) {n : Nat} {a : Addr} {o : HO} (e : ρ[n]? = some a) : Ext ρ H ρ (upd H a o) := by
  refine ⟨⟨[], by simp, by simp⟩, fun b u nb q _ => ?_⟩
  have : b ≠ a := by rintro rfl; exact nb (List.mem_of_getElem? e)
  rw [upd_ne this]; exact q
theorem HR.set (r : HR K Fr ρ h H) {n : Nat} {a : Addr} {o : HO} {b : Ob} (e : ρ[n]? = some a) (q : OR K Fr ρ (upd H a o) b a) : HR K Fr ρ (h.set n b) (upd H a o) := by
  obtain ⟨u0, e0, hu0⟩ := r.cl (List.mem_of_getElem? e)
  refine ⟨by simp [r.len], r.nd, fun c hc => ?_, fun P q l => tabS_set (r.tb P q l) e0 hu0, r.dj, fun m u e2 => ?_⟩
  · obtain ⟨u, q, ht⟩ := r.fr' c hc
    have : c ≠ a := by rintro rfl; exact r.dj c (List.mem_of_getElem? e) hc
    exact ⟨u, by rw [upd_ne this]; exact q, ht⟩
  · by_cases hm : n = m
    · subst hm
      have hl : n < h.length := by rw [← r.len]; exact (List.getElem?_eq_some_iff.mp e).1
      rw [List.getElem?_set_self hl] at e2
      cases e2
      exact ⟨a, e, q⟩
    · rw [List.getElem?_set_ne hm] at e2
      obtain ⟨c, e1, q1⟩ := r.at' m u e2
      have : c ≠ a := by
        rintro rfl
        exact hm ((List.getElem_inj r.nd).mp ((List.getElem?_eq_some_iff.mp e).2.trans (List.getElem?_eq_some_iff.mp e1).2.symm))
      exact ⟨c, e1, q1.mono (ext_set r e) (upd_ne this)⟩

/-! ### what data is read as -/
theorem RDs.length : ∀ {ds : List D} {vs : List V}, RDs K Fr ρ H ds vs → ds.length = vs.length
  | [], vs, r => by unfold RDs at r; subst r; rfl
  | d :: ds, vs, r => by
    unfold RDs at r
    obtain ⟨v, t, rfl, _, q⟩ := r
    simp [RDs.length q]
theorem RDs.get : ∀ {ds : List D} {vs : List V} {i : Nat} {d : D}, RDs K Fr ρ H ds vs → ds[i]? = some d → ∃ v, vs[i]? = some v ∧ RD K Fr ρ H d v
  | [], _, _, _, _, e => by simp at e
  | d :: ds, vs, 0, x, r, e => by
    unfold RDs at r
    obtain ⟨v, t, rfl, k, _⟩ := r
    simp at e; subst e
    exact ⟨v, rfl, k⟩
  | d :: ds, vs, i + 1, x, r, e => by
    unfold RDs at r
    obtain ⟨v, t, rfl, _, q⟩ := r
    obtain ⟨w, e1, k⟩ := RDs.get (i := i) q (by simpa using e)
    exact ⟨w, by simpa using e1, k⟩
theorem RDs.nil : RDs K Fr ρ H [] [] := by unfold RDs; rfl
theorem RDs.cons {d : D} {v : V} {ds : List D} {vs : List V} (a : RD K Fr ρ H d v) (b : RDs K Fr ρ H ds vs) : RDs K Fr ρ H (d :: ds) (v :: vs) := by unfold RDs; exact ⟨v, vs, rfl, a, b⟩
theorem RDs.append : ∀ {ds es : List D} {vs ws : List V}, RDs K Fr ρ H ds vs → RDs K Fr ρ H es ws → RDs K Fr ρ H (ds ++ es) (vs ++ ws)
  | [], _, _, _, a, b => by unfold RDs at a; subst a; exact b
  | d :: ds, es, vs, ws, a, b => by
    unfold RDs at a
    obtain ⟨v, t, rfl, k, q⟩ := a
    exact .cons k (RDs.append q b)
theorem RDs.take : ∀ (n : Nat) {ds : List D} {vs : List V}, RDs K Fr ρ H ds vs → RDs K Fr ρ H (ds.take n) (vs.take n)
  | 0, _, _, _ => by simp; exact RDs.nil
  | n + 1, [], _, r => by unfold RDs at r; subst r; exact RDs.nil
  | n + 1, d :: ds, vs, r => by
    unfold RDs at r
    obtain ⟨v, t, rfl, k, q⟩ := r
    exact .cons k (RDs.take n q)
theorem RDs.drop : ∀ (n : Nat) {ds : List D} {vs : List V}, RDs K Fr ρ H ds vs → RDs K Fr ρ H (ds.drop n) (vs.drop n)
  | 0, _, _, r => by simpa using r
  | n + 1, [], _, r => by unfold RDs at r; subst r; exact RDs.nil
  | n + 1, d :: ds, vs, r => by
    unfold RDs at r
    obtain ⟨v, t, rfl, k, q⟩ := r
    simpa using RDs.drop n q
theorem RDs.set : ∀ (n : Nat) {ds : List D} {vs : List V} {d : D} {v : V}, RD K Fr ρ H d v → RDs K Fr ρ H ds vs → RDs K Fr ρ H (ds.set n d) (vs.set n v)
  | _, [], _, _, _, _, r => by unfold RDs at r; subst r; exact RDs.nil
  | 0, d :: ds, vs, _, _, k', r => by
    unfold RDs at r
    obtain ⟨v, t, rfl, k, q⟩ := r
    exact .cons k' q
  | n + 1, d :: ds, vs, _, _, k', r => by
    unfold RDs at r
    obtain ⟨v, t, rfl, k, q⟩ := r
    exact .cons k (RDs.set n k' q)
theorem RDs.eraseIdx : ∀ (n : Nat) {ds : List D} {vs : List V}, RDs K Fr ρ H ds vs → RDs K Fr ρ H (ds.eraseIdx n) (vs.eraseIdx n)
  | _, [], _, r => by unfold RDs at r; subst r; exact RDs.nil
  | 0, d :: ds, vs, r => by
    unfold RDs at r
    obtain ⟨v, t, rfl, k, q⟩ := r
    exact q
  | n + 1, d :: ds, vs, r => by
    unfold RDs at r
    obtain ⟨v, t, rfl, k, q⟩ := r
    exact .cons k (RDs.eraseIdx n q)
theorem RDs.reverse {ds : List D} {vs : List V} (r : RDs K Fr ρ H ds vs) : RDs K Fr ρ H ds.reverse vs.reverse := by
  induction ds generalizing vs with
  | nil => unfold RDs at r; subst r; exact RDs.nil
  | cons d ds ih =>
    unfold RDs at r
    obtain ⟨v, t, rfl, k, q⟩ := r
    rw [List.reverse_cons, List.reverse_cons]
    exact (ih q).append (.cons k .nil)
theorem RDs.dropLast {ds : List D} {vs : List V} (r : RDs K Fr ρ H ds vs) : RDs K Fr ρ H ds.dropLast vs.dropLast := by
  rw [List.dropLast_eq_take, List.dropLast_eq_take, ← r.length]; exact r.take _
theorem RDs.rep {ds : List D} {vs : List V} (r : RDs K Fr ρ H ds vs) : ∀ k : Nat, RDs K Fr ρ H (List.replicate k ds).flatten (List.replicate k vs).flatten
  | 0 => RDs.nil
  | k + 1 => by rw [List.replicate_succ, List.replicate_succ, List.flatten_cons, List.flatten_cons]; exact r.append (RDs.rep r k)
theorem RDs.ints : ∀ {ds : List D} {vs : List V} {ns : List Int}, intsOf ds = some ns → RDs K Fr ρ H ds vs → vs = ns.map V.int
  | [], vs, ns, e, r => by unfold RDs at r; cases e; exact r
  | d :: ds, vs, ns, e, r => by
    unfold RDs at r
    obtain ⟨v, t, rfl, k, q⟩ := r
    cases d with
    | int i =>
      unfold intsOf at e
      cases q2 : intsOf ds with
      | none => rw [q2] at e; cases e
      | some ms =>
        rw [q2] at e; cases e
        unfold RD at k
        rw [k, RDs.ints q2 q]; rfl
    | _ => unfold intsOf at e; cases e
theorem RDs.of_ints : ∀ (ns : List Int), RDs K Fr ρ H (ns.map D.int) (ns.map V.int)
  | [] => RDs.nil
  | n :: ns => RDs.cons (by unfold RD; rfl) (RDs.of_ints ns)
/-- a tuple, a list, a cell's list, the script: read -/
theorem RD.tupl {ds : List D} {v : V} (r : RD K Fr ρ H (.tup ds) v) : ∃ a vs, v = .ref a ∧ H a = some (.tup vs) ∧ RDs K Fr ρ H ds vs := by
  unfold RD at r
  obtain ⟨a, vs, e, k, _, q⟩ := r
  exact ⟨a, vs, e, k, q⟩
theorem RD.sqT {ds : List D} {v : V} (r : RD K Fr ρ H (.tup ds) v) : ∃ a vs, v = .ref a ∧ SqT K H a vs ∧ RDs K Fr ρ H ds vs := by
  obtain ⟨a, vs, e, k, q⟩ := r.tupl
  exact ⟨a, vs, e, .of k, q⟩
theorem RD.sqL {ds : List D} {v : V} (r : RD K Fr ρ H (.lst ds) v) : ∃ a vs, v = .ref a ∧ H a = some (.lst vs) ∧ RDs K Fr ρ H ds vs := by
  unfold RD at r
  obtain ⟨a, vs, e, k, _, _, q⟩ := r
  exact ⟨a, vs, e, k, q⟩
theorem HR.lst (r : HR K Fr ρ h H) {n : Nat} {ds : List D} {v : V} (k : RD K Fr ρ H (.ref n) v) (e : h[n]? = some (.lst ds)) : ∃ a vs, v = .ref a ∧ ρ[n]? = some a ∧ H a = some (.lst vs) ∧ RDs K Fr ρ H ds vs := by
  unfold RD at k
  obtain ⟨a, e1, e2⟩ := k
  obtain ⟨b, e3, vs, e4, q⟩ := r.at' n _ e
  rw [e2] at e3; cases e3
  exact ⟨a, vs, e1, e2, e4, q⟩
theorem HR.dct (r : HR K Fr ρ h H) {n : Nat} {kvs : List (Key × D)} {v : V} (k : RD K Fr ρ H (.ref n) v) (e : h[n]? = some (.dct kvs)) : ∃ a vs, v = .ref a ∧ ρ[n]? = some a ∧ H a = some (.dK vs) ∧ KR K Fr ρ H kvs vs := by
  unfold RD at k
  obtain ⟨a, e1, e2⟩ := k
  obtain ⟨b, e3, vs, e4, q⟩ := r.at' n _ e
  rw [e2] at e3; cases e3
  exact ⟨a, vs, e1, e2, e4, q⟩
theorem HR.lstOf (r : HR K Fr ρ h H) {d : D} {ds : List D} {v : V} (k : RD K Fr ρ H d v) (e : lstOf h d = some ds) : ∃ a vs, v = .ref a ∧ H a = some (.lst vs) ∧ RDs K Fr ρ H ds vs := by
  cases d with
  | lst es =>
    cases e
    obtain ⟨a, vs, e1, k1, q⟩ := k.sqL
    exact ⟨a, vs, e1, k1, q⟩
  | ref n =>
    dsimp only [FF.lstOf] at e
    cases q : h[n]? with
    | none => rw [q] at e; cases e
    | some o =>
      rw [q] at e
      cases o with
      | lst es =>
        cases e
        obtain ⟨a, vs, e1, _, k1, q⟩ := r.lst k q
        exact ⟨a, vs, e1, k1, q⟩
      | _ => cases e
  | _ => cases e
/-- a sequence: as a list or a tuple -/
theorem HR.items (r : HR K Fr ρ h H) {d : D} {ds : List D} {v : V} (k : RD K Fr ρ H d v) (e : itemsOf h d = some ds) : ∃ a vs, v = .ref a ∧ (SqL K H a vs ∨ SqT K H a vs) ∧ RDs K Fr ρ H ds vs := by
  cases d with
  | tup es =>
    cases e
    obtain ⟨a, vs, e1, k1, q⟩ := k.sqT
    exact ⟨a, vs, e1, .inr k1, q⟩
  | lst es =>
    cases e
    obtain ⟨a, vs, e1, k1, q⟩ := k.sqL
    exact ⟨a, vs, e1, .inl (.of k1), q⟩
  | scr ns =>
    cases e
    unfold RD at k
    obtain ⟨a, e1, k1⟩ := k
    refine ⟨a, _, e1, .inl ?_, RDs.of_ints ns⟩
    rcases k1 with ⟨k1, _⟩ | k1
    · exact .inl k1.1
    · exact .inr k1
  | ktp ns =>
    cases e
    unfold RD at k
    obtain ⟨a, e1, k1⟩ := k
    exact ⟨a, _, e1, .inr k1.sqT, RDs.of_ints ns⟩
  | ref n =>
    dsimp only [itemsOf] at e
    cases q : h[n]? with
    | none => rw [q] at e; cases e
    | some o =>
      rw [q] at e
      cases o with
      | lst es =>
        cases e
        obtain ⟨a, vs, e1, _, k1, q⟩ := r.lst k q
        exact ⟨a, vs, e1, .inl (.of k1), q⟩
      | _ => cases e
  | _ => cases e
end
end FF

/-! FFMul: a tuple once, and none of a tuple. -/
namespace FF
open PySem PySem.Spec PyProof.Rows L2
theorem tuple_mul1 (l : Addr) (items : Array Value) (n : Nat) (dd : Option Addr) (sl : Array (Option Value)) (u : Tok) :
    Meets (Builtin.«tuple.__mul__» ⟨[.ref l, .int 1 u], []⟩) (fun _ R s => s.heap.get? l = some { cls := .type "tuple", dict := dd, data := .seq items n, slots := sl } ∧ R (.ok (.ret (.ref l))) s) :=
  .of_wp fun prog w A R s h => by
    obtain ⟨hp, g, d, tk, os⟩ := s
    obtain ⟨hl, h⟩ := h
    have f1 := AutoSeq1.idx_int
    wp_walk using wpAny_loadPart' hl
    repeat (first
      | (refine wpAny_ite_false (by decide) ?_; wp_walk using wpAny_loadPart' hl)
      | (refine wpAny_ite_true (by simp) ?_; wp_walk using wpAny_loadPart' hl))
    exact ⟨_, rfl, h⟩
theorem tuple_mul0 (l : Addr) (items : Array Value) (n : Nat) (dd : Option Addr) (sl : Array (Option Value)) (x : Int) (u : Tok) (c0 : (decide (x < -(2 ^ 63)) || decide (x ≥ 2 ^ 63)) = false) (c1 : (items.isEmpty || x == 1) = false) (c2 : (decide (x ≤ 0) || items.isEmpty) = true) :
    Meets (Builtin.«tuple.__mul__» ⟨[.ref l, .int x u], []⟩) (fun _ R s => s.heap.get? l = some { cls := .type "tuple", dict := dd, data := .seq items n, slots := sl } ∧
      R (.ok (.ret (Value.ref s.heap.objs.size))) { s with heap := s.heap.push { cls := Value.type "tuple", data := Data.seq #[] }, toks := s.toks }) :=
  .of_wp fun prog w A R s h => by
    obtain ⟨hp, g, d, tk, os⟩ := s
    obtain ⟨hl, h⟩ := h
    have f1 := AutoSeq1.idx_int
    wp_walk using wpAny_loadPart' hl
    repeat (first
      | (refine wpAny_ite_false (decide_eq_false (by rw [c0]; exact Bool.false_ne_true)) ?_; wp_walk using wpAny_loadPart' hl)
      | (refine wpAny_ite_false (decide_eq_false (by rw [c1]; exact Bool.false_ne_true)) ?_; wp_walk using wpAny_loadPart' hl)
      | (refine wpAny_ite_true (decide_eq_true c2) ?_; wp_walk using wpAny_loadPart' hl))
    exact ⟨_, rfl, h⟩
def rRep1 (K : PySem.W.Frag) : R2 := fun x y H Q => ∃ l xs, x = .ref l ∧ y = .int 1 ∧ SqT K H l xs ∧ Q (.ref l) H
def rRep0 (K : PySem.W.Frag) : R2 := fun x y H Q => ∃ l k xs, x = .ref l ∧ y = .int k ∧ SqT K H l xs ∧ xs ≠ [] ∧ -1000 ≤ k ∧ k ≤ 0 ∧ ∀ p, H p = none → Q (.ref p) (upd H p (.tup []))
section
variable {X : Cx}
theorem op_rep1 : OpR X (binaryOp .Mult) (rRep1 X.K) := by
  intro pins s σ H x y v u Q I rx ry h
  obtain ⟨l, xs, rfl, rfl, hT, q⟩ := h
  cases rx
  obtain ⟨t, rfl⟩ := ry
  obtain ⟨its, r, ⟨⟨cls, dd, data, sl⟩, ho, hc, n, hd⟩, hs⟩ := I.tuple hT
  simp only at hc hd
  subst hc hd
  exact wpAny_binaryOp_repeat_ref (T := "tuple") (U := "int") (by decide) ⟨_, ho, rfl⟩ (fun s' => typeIs_int s' 1 t) noFill_tuple_mul F.fills_int_mul F.slot_int_rmul repeat_tuple F.slot_int_index.lookup
    (call_meets F.slot_int_rmul (typeIs_int s 1 t) F.entry_int_rmul (F.args_int_rmul_2 _ _) (int_rmul_tuple 1 t l its.toArray n dd sl)
      ⟨ho, rfl, ⟨_, ho, rfl⟩, call_meets F.slot_tuple_mul ⟨_, ho, rfl⟩ F.entry_tuple_mul (F.args_tuple_mul_2 _ _) (tuple_mul1 l its.toArray n dd sl t) ⟨ho, ⟨.ref l, H, I, rfl, q⟩⟩⟩)
theorem op_rep0 : OpR X (binaryOp .Mult) (rRep0 X.K) := by
  intro pins s σ H x y v u Q I rx ry h
  obtain ⟨l, k, xs, rfl, rfl, hT, hne, k0, k1, q⟩ := h
  cases rx
  obtain ⟨t, rfl⟩ := ry
  obtain ⟨its, r, ⟨⟨cls, dd, data, sl⟩, ho, hc, n, hd⟩, hs⟩ := I.tuple hT
  simp only at hc hd
  subst hc hd
  have hle : its.length = xs.length := r.length.symm
  have hi : its.toArray.isEmpty = false := by
    cases its with
    | nil => exact absurd (List.eq_nil_of_length_eq_zero hle.symm) hne
    | cons a b => rfl
  have c0 : (decide (k < -(2 ^ 63)) || decide (k ≥ 2 ^ 63)) = false := by
    rw [decide_eq_false (by omega), decide_eq_false (by omega)] <;> rfl
  have c1 : (its.toArray.isEmpty || k == 1) = false := by
    rw [hi, Bool.false_or]
    exact beq_eq_false_iff_ne.mpr (by omega)
  have c2 : (decide (k ≤ 0) || its.toArray.isEmpty) = true := by
    rw [hi, Bool.or_false]
    exact decide_eq_true k1
  refine wpAny_binaryOp_repeat_ref (T := "tuple") (U := "int") (by decide) ⟨_, ho, rfl⟩ (fun s' => typeIs_int s' k t) noFill_tuple_mul F.fills_int_mul F.slot_int_rmul repeat_tuple F.slot_int_index.lookup
    (call_meets F.slot_int_rmul (typeIs_int s k t) F.entry_int_rmul (F.args_int_rmul_2 _ _) (int_rmul_tuple k t l its.toArray n dd sl)
      ⟨ho, rfl, ⟨_, ho, rfl⟩, call_meets F.slot_tuple_mul ⟨_, ho, rfl⟩ F.entry_tuple_mul (F.args_tuple_mul_2 _ _) (tuple_mul0 l its.toArray n dd sl k t c0 c1 c2) ⟨ho, ?_⟩⟩)
  refine ⟨.ref s.heap.objs.size, _, I.laid (t' := s.toks) (o := .tup []) (fun b ob q => Heap.get?_push_of_some _ q) (Nat.le_refl _) ?_, rfl, q _ (I.hok.fresh (Nat.le_refl _))⟩
  exact ⟨by rw [sizeLine_eq]; simp, [], .nil, IsTup.new _ _⟩
end
end FF

/-! FFPlain: tuples that are known to have no dict of their own. -/
namespace FF
open PySem PySem.Spec PyProof.Rows L2
def rCatF (K : PySem.W.Frag) : R2 := fun x y H Q => ∃ a b xs ys, x = .ref a ∧ y = .ref b ∧ SqT K H a xs ∧ SqT K H b ys ∧ xs.length + ys.length ≤ sizeLine ∧
  (xs = [] → Q (.ref b) H) ∧ (xs ≠ [] → ys = [] → Q (.ref a) H) ∧ (xs ≠ [] → ys ≠ [] → ∀ (p : Addr) (o : Obj), H p = none → o.dict = none → Q (.ref p) (upd H p (.frz o (.tup (xs ++ ys)))))
section
variable {X : Cx}
theorem op_catF : OpR X (binaryOp .Add) (rCatF X.K) := by
  intro pins s σ H x y v u Q I rx ry h
  obtain ⟨a, b, xs, ys, rfl, rfl, ha, hb, hz, q0, q1, q2⟩ := h
  by_cases hx : xs = []
  · subst hx
    cases rx
    cases ry
    obtain ⟨its, r1, p1, _⟩ := I.tuple ha
    obtain ⟨its2, r2, p2, _⟩ := I.tuple hb
    cases r1
    exact cat_tup0 p1 p2 ⟨.ref b, H, I, rfl, q0 rfl⟩
  · cases rx
    cases ry
    obtain ⟨its, r1, p1, _⟩ := I.tuple ha
    obtain ⟨its2, r2, p2, _⟩ := I.tuple hb
    refine HT.cat_tup p1 p2 (fun z => hx (r1.nil_iff.mp z)) (fun z => ⟨.ref a, H, I, rfl, q1 hx (r2.nil_iff.mp z)⟩) (fun z => ?_) (by rw [← r1.length, ← r2.length]; exact hz)
    refine ⟨.ref s.heap.objs.size, _, I.laid (t' := s.toks) (o := .frz { cls := .type "tuple", data := .seq (its ++ its2).toArray } (.tup (xs ++ ys))) (fun b ob q => Heap.get?_push_of_some _ q) (Nat.le_refl _) ?_, rfl, q2 hx (fun w => z (r2.nil_iff.mpr w)) _ _ (I.hok.fresh (Nat.le_refl _)) rfl⟩
    exact ⟨Heap.get?_push_size _ rfl, by rw [List.length_append]; exact hz, _, r1.append r2, IsTup.new _ _⟩
def rRepF (K : PySem.W.Frag) : R2 := fun x y H Q => ∃ l k xs, x = .ref l ∧ y = .int k ∧ SqT K H l xs ∧ xs ≠ [] ∧ 2 ≤ k ∧ k ≤ 1000 ∧ xs.length ≤ 1000 ∧ ∀ (p : Addr) (o : Obj), H p = none → o.dict = none → Q (.ref p) (upd H p (.frz o (.tup (List.replicate k.toNat xs).flatten)))
theorem op_repF : OpR X (binaryOp .Mult) (rRepF X.K) := by
  intro pins s σ H x y v u Q I rx ry h
  obtain ⟨l, k, xs, rfl, rfl, hT, hne, h1, h2, hz, q⟩ := h
  cases rx
  obtain ⟨t, rfl⟩ := ry
  obtain ⟨its, r, ⟨⟨cls, dd, data, sl⟩, ho, hc, n, hd⟩, hs⟩ := I.tuple hT
  simp only at hc hd
  subst hc hd
  have hle : its.length = xs.length := r.length.symm
  have hn : its ≠ [] := fun e => hne (by
    rw [e] at hle
    exact List.eq_nil_of_length_eq_zero hle.symm)
  have hi : its.toArray.isEmpty = false := by
    cases its with
    | nil => exact absurd rfl hn
    | cons a b => rfl
  have hsz0 : its.toArray.size = xs.length := by rw [List.size_toArray, hle]
  have hm : ((its.toArray.size : Nat) : Int) * k ≤ 1000000 := by
    rw [hsz0]
    have a1 : ((xs.length : Nat) : Int) * k ≤ 1000 * k := Int.mul_le_mul_of_nonneg_right (by omega) (by omega)
    omega
  have flen : (List.replicate k.toNat its).flatten.length ≤ sizeLine := by
    rw [PyProof.Rows.lm_len_rep_flat, hle, sizeLine_eq]
    have a1 : k.toNat * xs.length ≤ 1000 * 1000 := Nat.mul_le_mul (by omega) hz
    omega
  have c0 : (decide (k < -(2 ^ 63)) || decide (k ≥ 2 ^ 63)) = false := by
    rw [decide_eq_false (by omega), decide_eq_false (by omega)] <;> rfl
  have c1 : (its.toArray.isEmpty || k == 1) = false := by
    rw [hi, Bool.false_or]
    exact beq_eq_false_iff_ne.mpr (by omega)
  have c2 : (decide (k ≤ 0) || its.toArray.isEmpty) = false := by
    rw [hi, Bool.or_false]
    exact decide_eq_false (by omega)
  have c4 : Builtin.Tuple.tupleTooMany (((its.toArray.size : Nat) : Int) * k) = false := by
    unfold Builtin.Tuple.tupleTooMany
    rw [sizeLine_eq]
    exact decide_eq_false (by omega)
  refine wpAny_binaryOp_repeat_ref (T := "tuple") (U := "int") (by decide) ⟨_, ho, rfl⟩ (fun s' => typeIs_int s' k t) noFill_tuple_mul F.fills_int_mul F.slot_int_rmul repeat_tuple F.slot_int_index.lookup
    (call_meets F.slot_int_rmul (typeIs_int s k t) F.entry_int_rmul (F.args_int_rmul_2 _ _) (int_rmul_tuple k t l its.toArray n dd sl)
      ⟨ho, rfl, ⟨_, ho, rfl⟩, call_meets F.slot_tuple_mul ⟨_, ho, rfl⟩ F.entry_tuple_mul (F.args_tuple_mul_2 _ _) (tuple_mulW l its.toArray n dd sl k t c0 c1 c2 (by omega) c4 (by rw [size_rep, List.size_toArray]; exact flen)) ⟨ho, ?_⟩⟩)
  rw [size_rep]
  refine ⟨.ref s.heap.objs.size, _, I.laid (t' := s.toks) (o := .frz { cls := .type "tuple", data := .seq (List.replicate k.toNat its).flatten.toArray } (.tup (List.replicate k.toNat xs).flatten)) (fun b ob q => Heap.get?_push_of_some _ q) (Nat.le_refl _) ?_, rfl, q _ _ (I.hok.fresh (Nat.le_refl _)) rfl⟩
  refine ⟨Heap.get?_push_size _ rfl, ?_, _, r.rep k.toNat, IsTup.new _ _⟩
  rw [PyProof.Rows.lm_len_rep_flat] at flen ⊢
  rw [← hle]; exact flen
/-! ### slices, backwards -/
def rSlF (K : PySem.W.Frag) : V → Option Int → Option Int → Hp → VK → Prop := fun x lo hi H Q => ∃ a xs, x = .ref a ∧ SqT K H a xs ∧
  (HT.sIx xs.length 0 lo = 0 ∧ HT.sIx xs.length xs.length hi = xs.length → Q (.ref a) H) ∧ (¬ (HT.sIx xs.length 0 lo = 0 ∧ HT.sIx xs.length xs.length hi = xs.length) → ∀ (p : Addr) (o : Obj), H p = none → o.dict = none → Q (.ref p) (upd H p (.frz o (.tup (cutV xs lo hi)))))
theorem sl_tupF : SlR X (rSlF X.K) := by
  intro pins s σ H x v vl vu lo hi sl Q I rx hs pl pu h
  obtain ⟨a, xs, rfl, hx, q1, q2⟩ := h
  cases rx
  obtain ⟨its, r, ht, hz⟩ := I.tuple hx
  have hlen : its.toArray.size = xs.length := by rw [List.size_toArray]; exact r.length.symm
  refine ⟨"tuple", _, PyProof.Rows.slot_tuple_getitem.lookup, ht.typeIs, ?_⟩
  by_cases hw : HT.sIx xs.length 0 lo = 0 ∧ HT.sIx xs.length xs.length hi = xs.length
  · exact getItem_tuple_whole ht hs pl pu (by rw [hlen]; exact hw) ⟨.ref a, H, I, rfl, q1 hw⟩
  · refine HT.getItem_tuple_cut ht hs pl pu (by rw [hlen]; exact hw) ?_ (by rw [hlen]; exact hz)
    rw [hlen]
    refine ⟨.ref s.heap.objs.size, _, I.laid (t' := s.toks) (o := .frz { cls := .type "tuple", data := .seq ((its.toArray.toList.drop (HT.sIx xs.length 0 lo)).take (HT.sIx xs.length xs.length hi - HT.sIx xs.length 0 lo)).toArray } (.tup (cutV xs lo hi))) (fun b ob q => Heap.get?_push_of_some _ q) (Nat.le_refl _) ?_, rfl, q2 hw _ _ (I.hok.fresh (Nat.le_refl _)) rfl⟩
    exact ⟨Heap.get?_push_size _ rfl, Nat.le_trans (cutV_length xs lo hi) hz, _, (r.drop (HT.sIx xs.length 0 lo)).take (HT.sIx xs.length xs.length hi - HT.sIx xs.length 0 lo), IsTup.new _ _⟩
/-! ### t.count(i) -/
end
end FF

/-! FFSE: the evaluator's expressions keep what the layer asks: operators. -/
namespace FF
open PySem PySem.Spec PyProof.Rows L2

section
variable {α β : Type} {P P' : α → Prop} {E E' : D → Hq → Prop}
def okR (P : α → Prop) (E : D → Hq → Prop) : R α → Prop
  | .ok a => P a
  | .exc e h => E e h
  | .stuck => False
theorem okR_bind {r : R α} {f : α → R β} {P : β → Prop} : okR P E (r.bind f) ↔ okR (fun a => okR P E (f a)) E r := by cases r <;> exact Iff.rfl
theorem okR.mono {r : R α} (h : okR P E r) (hp : ∀ a, P a → P' a) (he : ∀ e h, E e h → E' e h) : okR P' E' r := by
  cases r with
  | ok a => exact hp a h
  | exc e q => exact he e q h
  | stuck => exact h
theorem okR_lift {o : Option α} (h : okR P E (lift o)) : ∃ a, o = some a ∧ P a := by
  cases o with
  | none => exact h.elim
  | some a => exact ⟨a, rfl, h⟩
end

/-- what is wanted of an exception, by the cells as they stand -/
structure EK (K : PySem.W.Frag) where
  p : List Addr → List Addr → Hp → L2.St → D → Hq → Prop
  mono : ∀ {Fr ρ H ρ' H' σ e h h'}, Ext ρ H ρ' H' → HR K Fr ρ' h' H' → p Fr ρ H σ e h → p Fr ρ' H' σ e h
/-- none leaves -/
def EK.none (K : PySem.W.Frag) : EK K := ⟨fun _ _ _ _ _ _ => False, fun _ _ h => h⟩

section
variable (K : PySem.W.Frag) (W : EK K)
def Kont (Fr ρ : List Addr) (H : Hp) (Q : VK) : D × Hq → Prop := fun p => ∀ v ρ' H', Ext ρ H ρ' H' → HR K Fr ρ' p.2 H' → RD K Fr ρ' H' p.1 v → Q v H'
def KontB (Fr ρ : List Addr) (H : Hp) (Q : Bool → Hp → Prop) : Bool × Hq → Prop := fun p => ∀ ρ' H', Ext ρ H ρ' H' → HR K Fr ρ' p.2 H' → Q p.1 H'
def KontA (Fr ρ : List Addr) (H : Hp) (Q : List V → Hp → Prop) : List D × Hq → Prop := fun p => ∀ vs ρ' H', Ext ρ H ρ' H' → HR K Fr ρ' p.2 H' → RDs K Fr ρ' H' p.1 vs → Q vs H'
def TEk (f : Env' → Hq → R (D × Hq)) : TE := fun σ H Q => ∃ Fr ρ s h, HR K Fr ρ h H ∧ SR K Fr ρ H s σ ∧ okR (Kont K Fr ρ H Q) (W.p Fr ρ H σ) (f s h)
def TTk (f : Env' → Hq → R (Bool × Hq)) : TT := fun σ H Q => ∃ Fr ρ s h, HR K Fr ρ h H ∧ SR K Fr ρ H s σ ∧ okR (KontB K Fr ρ H Q) (W.p Fr ρ H σ) (f s h)
def TAk (f : Env' → Hq → R (List D × Hq)) : TA := fun σ H Q => ∃ Fr ρ s h, HR K Fr ρ h H ∧ SR K Fr ρ H s σ ∧ okR (KontA K Fr ρ H Q) (W.p Fr ρ H σ) (f s h)
/-- two values, reckoned on -/
def rD (g : D → D → Hq → Option (D × Hq)) : R2 := fun x y H Q => ∃ Fr ρ h d e, HR K Fr ρ h H ∧ RD K Fr ρ H d x ∧ RD K Fr ρ H e y ∧ ∃ p, g d e h = some p ∧ Kont K Fr ρ H Q p
def rD1 (g : D → Hq → Option (D × Hq)) : V → Hp → VK → Prop := fun x H Q => ∃ Fr ρ h d, HR K Fr ρ h H ∧ RD K Fr ρ H d x ∧ ∃ p, g d h = some p ∧ Kont K Fr ρ H Q p
def rDs (g : List D → Hq → Option (D × Hq)) : List V → Hp → VK → Prop := fun xs H Q => ∃ Fr ρ h ds, HR K Fr ρ h H ∧ RDs K Fr ρ H ds xs ∧ ∃ p, g ds h = some p ∧ Kont K Fr ρ H Q p
end

/-- an expression, a test, arguments by the evaluator -/
def SE (X : Cx) (W : EK X.K) (e : Expr) (f : Env' → Hq → R (D × Hq)) : Prop := PE X e (TEk X.K W f)
def ST (X : Cx) (W : EK X.K) (e : Expr) (f : Env' → Hq → R (Bool × Hq)) : Prop := PT X e (TTk X.K W f)
def SA (X : Cx) (W : EK X.K) (e : List Expr) (f : Env' → Hq → R (List D × Hq)) : Prop := PA X e (TAk X.K W f)

section
variable {X : Cx}
theorem PE.imp {e : Expr} {t t' : TE} (h : PE X e t) (i : ∀ σ H Q, t' σ H Q → t σ H Q) : PE X e t' := ⟨fun pins s σ H Q I q => h.run pins s σ H Q I (i σ H Q q)⟩
theorem PT.imp {e : Expr} {t t' : TT} (h : PT X e t) (i : ∀ σ H Q, t' σ H Q → t σ H Q) : PT X e t' := ⟨fun pins s σ H Q I q => h.run pins s σ H Q I (i σ H Q q)⟩
theorem PA.imp {e : List Expr} {t t' : TA} (h : PA X e t) (i : ∀ σ H Q, t' σ H Q → t σ H Q) : PA X e t' := ⟨fun pos pins s σ H Q I q => h.run pos pins s σ H Q I (i σ H Q q)⟩
theorem PS.imp {e : Stmt} {t t' : TS} (h : PS X e t) (i : ∀ D σ H, t' D σ H → t D σ H) : PS X e t' := ⟨fun pins s σ H Q I q => h.run pins s σ H Q I (i _ _ _ q)⟩
theorem PSs.imp {e : List Stmt} {t t' : TS} (h : PSs X e t) (i : ∀ D σ H, t' D σ H → t D σ H) : PSs X e t' := ⟨fun pins s σ H Q I q => h.run pins s σ H Q I (i _ _ _ q)⟩
theorem OpR.imp {f : Value → Value → Sem Value} {r r' : R2} (h : OpR X f r) (i : ∀ x y H Q, r' x y H Q → r x y H Q) : OpR X f r' := fun pins s σ H x y v u Q I rx ry q => h pins s σ H x y v u Q I rx ry (i _ _ _ _ q)
theorem UnR.imp {f : Value → Sem Value} {r r' : V → Hp → VK → Prop} (h : UnR X f r) (i : ∀ x H Q, r' x H Q → r x H Q) : UnR X f r' := fun pins s σ H x v Q I rx q => h pins s σ H x v Q I rx (i _ _ _ q)
theorem CallR.imp {f : Value} {r r' : List V → Hp → VK → Prop} (h : CallR X f r) (i : ∀ x H Q, r' x H Q → r x H Q) : CallR X f r' := fun pins s σ H x v Q I rx q => h pins s σ H x v Q I rx (i _ _ _ q)
theorem IxR.imp {r r' : R2} (h : IxR X r) (i : ∀ x y H Q, r' x y H Q → r x y H Q) : IxR X r' := fun va sl pins s σ H x y v u Q I rx ry q => h va sl pins s σ H x y v u Q I rx ry (i _ _ _ _ q)
theorem MtR.imp {id : String} {r r' : V → List V → Hp → VK → Prop} (h : MtR X id r) (i : ∀ x y H Q, r' x y H Q → r x y H Q) : MtR X id r' := fun pins s σ H x y v u Q I rx ry q => h pins s σ H x y v u Q I rx ry (i _ _ _ _ q)
theorem SlR.imp {r r' : V → Option Int → Option Int → Hp → VK → Prop} (h : SlR X r) (i : ∀ x a b H Q, r' x a b H Q → r x a b H Q) : SlR X r' := fun pins s σ H x v vl vu lo hi sl Q I rx a b c q => h pins s σ H x v vl vu lo hi sl Q I rx a b c (i _ _ _ _ _ q)
theorem PE.or {e : Expr} {t t' : TE} (h : PE X e t) (h' : PE X e t') : PE X e (fun σ H Q => t σ H Q ∨ t' σ H Q) := ⟨fun pins s σ H Q I q => q.elim (fun q => h.run pins s σ H Q I q) fun q => h'.run pins s σ H Q I q⟩
end

section
variable {K : PySem.W.Frag} {W : EK K} {Fr ρ ρ' : List Addr} {H H' : Hp} {h h' : Hq} {Q : VK}
/-- a scalar comes, nothing is changed -/
theorem Kont.same {d : D} {v : V} (k : Kont K Fr ρ H Q (d, h)) (r : HR K Fr ρ h H) (x : RD K Fr ρ H d v) : Q v H := k v ρ H .refl r x
theorem Kont.tup {ds : List D} {vs : List V} {p : Addr} (k : Kont K Fr ρ H Q (.tup ds, h)) (r : HR K Fr ρ h H) (x : RDs K Fr ρ H ds vs) (hp : H p = none) : Q (.ref p) (upd H p (.tup vs)) := by
  refine k _ ρ _ (ext_new hp) (r.new hp) ?_
  unfold RD
  exact ⟨p, vs, rfl, upd_same, (r.fresh hp).1, RDs.mono (ext_new hp) _ _ x⟩
theorem Kont.ktp {ns : List Int} {p : Addr} {o : Obj} (k : Kont K Fr ρ H Q (.ktp ns, h)) (r : HR K Fr ρ h H) (hp : H p = none) (ho : o.dict = none) : Q (.ref p) (upd H p (.frz o (.tup (ns.map V.int)))) := by
  refine k _ ρ _ (ext_new hp) (r.new hp) ?_
  unfold RD
  exact ⟨p, rfl, .inl ⟨⟨o, upd_same, ho⟩, (r.fresh hp).1⟩⟩
theorem RD.newL {ds : List D} {vs : List V} {p : Addr} (r : HR K Fr ρ h H) (x : RDs K Fr ρ H ds vs) (hp : H p = none) : RD K Fr ρ (upd H p (.lst vs)) (.lst ds) (.ref p) := by
  unfold RD
  exact ⟨p, vs, rfl, upd_same, (r.fresh hp).1, (r.fresh hp).2, RDs.mono (ext_new hp) _ _ x⟩
theorem Kont.lst {ds : List D} {vs : List V} {p : Addr} {q : D × Hq} {live : Bool} (k : Kont K Fr ρ H Q q) (e : mkL live ds h = some q) (r : HR K Fr ρ h H) (x : RDs K Fr ρ H ds vs) (hp : H p = none) : Q (.ref p) (upd H p (.lst vs)) := by
  unfold mkL at e
  split at e
  · split at e
    · cases e
      refine k _ (ρ ++ [p]) _ (ext_cell hp) (r.cell hp ⟨vs, upd_same, RDs.mono (ext_cell hp) _ _ x⟩) ?_
      unfold RD
      exact ⟨p, rfl, by rw [List.getElem?_append_right (by rw [r.len]; exact Nat.le_refl _), r.len]; simp⟩
    · cases e
      exact k _ ρ _ (ext_new hp) (r.new hp) (RD.newL r x hp)
  · cases e
theorem mkL_len {ds : List D} {q : D × Hq} {live : Bool} (e : mkL live ds h = some q) : ds.length ≤ sizeLine := by
  unfold mkL at e
  split at e
  · rename_i hl; rw [sizeLine_eq]; exact of_decide_eq_true hl
  · cases e
theorem lineOk_le {n : Nat} (e : lineOk n = true) : n ≤ sizeLine := by rw [sizeLine_eq]; exact of_decide_eq_true e

theorem rd_int {i : Int} {v : V} : RD K Fr ρ H (.int i) v ↔ v = .int i := by unfold RD; exact Iff.rfl
theorem rd_bl {i : Bool} {v : V} : RD K Fr ρ H (.bl i) v ↔ v = .bl i := by unfold RD; exact Iff.rfl
theorem rd_str {i : Str} {v : V} : RD K Fr ρ H (.str i) v ↔ v = .str i := by unfold RD; exact Iff.rfl
theorem rd_non {v : V} : RD K Fr ρ H .non v ↔ v = .non := by unfold RD; exact Iff.rfl

/-- two operands -/
theorem t2 {fa fb : Env' → Hq → R (D × Hq)} {g : D → D → Hq → R (D × Hq)} {σ : L2.St} (t : TEk K W (fun s h => (fa s h).bind fun p => (fb s p.2).bind fun q => g p.1 q.1 q.2) σ H Q) :
    TEk K W fa σ H fun x H1 => TEk K W fb σ H1 fun y H2 => ∃ Fr ρ h d e, HR K Fr ρ h H2 ∧ RD K Fr ρ H2 d x ∧ RD K Fr ρ H2 e y ∧ okR (Kont K Fr ρ H2 Q) (W.p Fr ρ H2 σ) (g d e h) := by
  obtain ⟨Fr, ρ, s, h, r, sr, ok⟩ := t
  refine ⟨Fr, ρ, s, h, r, sr, (okR_bind.mp ok).mono (fun p q v ρ1 H1 x1 r1 d1 => ?_) fun _ _ z => z⟩
  refine ⟨Fr, ρ1, s, p.2, r1, sr.mono x1, (okR_bind.mp q).mono (fun p2 q2 w ρ2 H2 x2 r2 d2 => ?_) fun _ _ z => W.mono x1 r1 z⟩
  refine ⟨Fr, ρ2, p2.2, p.1, p2.1, r2, RD.mono x2 _ _ d1, d2, q2.mono (fun a k u ρ3 H3 x3 r3 d3 => k u ρ3 H3 ((x1.step r1 x2).step r2 x3) r3 d3) fun _ _ z => W.mono (x1.step r1 x2) r2 z⟩
theorem t2o {fa fb : Env' → Hq → R (D × Hq)} {g : D → D → Hq → Option (D × Hq)} {σ : L2.St} (t : TEk K W (fun s h => (fa s h).bind fun p => (fb s p.2).bind fun q => lift (g p.1 q.1 q.2)) σ H Q) :
    tOp (rD K g) (TEk K W fa) (TEk K W fb) σ H Q := by
  obtain ⟨Fr, ρ, s, h, r, sr, ok⟩ := t2 (g := fun d e h => lift (g d e h)) t
  refine ⟨Fr, ρ, s, h, r, sr, ok.mono (fun p q v ρ1 H1 x1 r1 d1 => ?_) fun _ _ z => z⟩
  obtain ⟨Fr, ρ, s, h, r, sr, ok⟩ := q v ρ1 H1 x1 r1 d1
  refine ⟨Fr, ρ, s, h, r, sr, ok.mono (fun p q v ρ1 H1 x1 r1 d1 => ?_) fun _ _ z => z⟩
  obtain ⟨Fr, ρ, h, d, e, r, d1, d2, ok⟩ := q v ρ1 H1 x1 r1 d1
  exact ⟨Fr, ρ, h, d, e, r, d1, d2, okR_lift ok⟩
theorem t1 {fa : Env' → Hq → R (D × Hq)} {g : D → Hq → R (D × Hq)} {σ : L2.St} (t : TEk K W (fun s h => (fa s h).bind fun p => g p.1 p.2) σ H Q) :
    TEk K W fa σ H fun x H1 => ∃ Fr ρ h d, HR K Fr ρ h H1 ∧ RD K Fr ρ H1 d x ∧ okR (Kont K Fr ρ H1 Q) (W.p Fr ρ H1 σ) (g d h) := by
  obtain ⟨Fr, ρ, s, h, r, sr, ok⟩ := t
  refine ⟨Fr, ρ, s, h, r, sr, (okR_bind.mp ok).mono (fun p q v ρ1 H1 x1 r1 d1 => ?_) fun _ _ z => z⟩
  exact ⟨Fr, ρ1, p.2, p.1, r1, d1, q.mono (fun a k u ρ3 H3 x3 r3 d3 => k u ρ3 H3 (x1.step r1 x3) r3 d3) fun _ _ z => W.mono x1 r1 z⟩
theorem t1o {fa : Env' → Hq → R (D × Hq)} {g : D → Hq → Option (D × Hq)} {σ : L2.St} (t : TEk K W (fun s h => (fa s h).bind fun p => lift (g p.1 p.2)) σ H Q) :
    tUn (rD1 K g) (TEk K W fa) σ H Q := by
  obtain ⟨Fr, ρ, s, h, r, sr, ok⟩ := t1 (g := fun d h => lift (g d h)) t
  refine ⟨Fr, ρ, s, h, r, sr, ok.mono (fun p q v ρ1 H1 x1 r1 d1 => ?_) fun _ _ z => z⟩
  obtain ⟨Fr, ρ, h, d, r, d1, ok⟩ := q v ρ1 H1 x1 r1 d1
  exact ⟨Fr, ρ, h, d, r, d1, okR_lift ok⟩
end

/-! ### operators -/
section
variable {X : Cx}
theorem op_int2 {f : Value → Value → Sem Value} {C : Int → Int → Bool} {C' : Int → Int → Prop} {g : Int → Int → Int} (o : OpR X f (rI C' fun i j => .int (g i j))) (hc : ∀ i j, C i j = true → C' i j) : OpR X f (rD X.K (int2 C g)) :=
  OpR.imp o fun x y H Q ⟨Fr, ρ, h, d, e, r, d1, d2, p, q, k⟩ => by
    unfold int2 at q
    split at q
    · rename_i i j
      split at q
      · rename_i c
        cases q
        exact ⟨i, j, rd_int.mp d1, rd_int.mp d2, hc i j c, k.same r (rd_int.mpr rfl)⟩
      · cases q
    · cases q
theorem op_int20 {f : Value → Value → Sem Value} {C : Int → Int → Bool} {g : Int → Int → Int} (o : OpR X f (rI0 fun i j => .int (g i j))) : OpR X f (rD X.K (int2 C g)) :=
  OpR.imp o fun x y H Q ⟨Fr, ρ, h, d, e, r, d1, d2, p, q, k⟩ => by
    unfold int2 at q
    split at q
    · rename_i i j
      split at q
      · cases q
        exact ⟨i, j, rd_int.mp d1, rd_int.mp d2, k.same r (rd_int.mpr rfl)⟩
      · cases q
    · cases q
theorem op_addD {live : Bool} : OpR X (binaryOp .Add) (rD X.K (addD live)) := by
  refine OpR.imp (op_add.or (op_add_str.or (op_catA.or (op_cat.or op_catF)))) fun x y H Q ⟨Fr, ρ, h, d, e, r, d1, d2, p, q, k⟩ => ?_
  unfold addD at q
  split at q
  · cases q
    exact .inl ⟨_, _, rd_int.mp d1, rd_int.mp d2, k.same r (rd_int.mpr rfl)⟩
  · split at q
    · rename_i hl
      cases q
      exact .inr (.inl ⟨_, _, rd_str.mp d1, rd_str.mp d2, lineOk_le hl, k.same r (rd_str.mpr rfl)⟩)
    · cases q
  · split at q
    · rename_i hl
      cases q
      obtain ⟨a, xs, rfl, s1, q1⟩ := d1.sqT
      obtain ⟨b, ys, rfl, s2, q2⟩ := d2.sqT
      refine .inr (.inr (.inl ⟨a, b, xs, ys, rfl, rfl, s1, s2, by rw [← q1.length, ← q2.length]; exact lineOk_le hl, fun e0 => ?_, fun _ e0 => ?_, fun _ _ p hp => k.tup r (q1.append q2) hp⟩))
      · have l0 := q1.length
        rw [e0, List.length_nil, List.length_eq_zero_iff] at l0
        subst l0
        exact k.same r (by simpa using d2)
      · have l0 := q2.length
        rw [e0, List.length_nil, List.length_eq_zero_iff] at l0
        subst l0
        exact k.same r (by simpa using d1)
    · cases q
  · rename_i i j
    split at q
    · rename_i hl
      cases q
      have d1' := d1
      have d2' := d2
      unfold RD at d1' d2'
      obtain ⟨a, rfl, k1⟩ := d1'
      obtain ⟨b, rfl, k2⟩ := d2'
      refine .inr (.inr (.inr (.inr ⟨a, b, _, _, rfl, rfl, k1.sqT, k2.sqT, by rw [List.length_map, List.length_map]; exact lineOk_le hl, fun e0 => ?_, fun _ e0 => ?_, fun _ _ p o hp ho => ?_⟩)))
      · have l0 : i = [] := List.map_eq_nil_iff.mp e0
        subst l0
        exact k.same r (by simpa using d2)
      · have l0 : j = [] := List.map_eq_nil_iff.mp e0
        subst l0
        exact k.same r (by simpa using d1)
      · rw [← List.map_append]
        exact k.ktp r hp ho
    · cases q
  · split at q
    · rename_i i j h1 h2
      split at q
      · rename_i hl
        obtain ⟨a, xs, rfl, s1, q1⟩ := r.lstOf d1 h1
        obtain ⟨b, ys, rfl, s2, q2⟩ := r.lstOf d2 h2
        exact .inr (.inr (.inr (.inl ⟨a, b, xs, ys, rfl, rfl, s1, s2, by rw [← q1.length, ← q2.length]; exact lineOk_le hl, fun p hp => k.lst q r (q1.append q2) hp⟩)))
      · cases q
    · cases q

theorem mulOk_ok {i j : Int} (h : mulOk i j = true) : CMul i j ∨ CMulW i j := by
  unfold mulOk at h
  simp only [Bool.or_eq_true, decide_eq_true_eq, Bool.and_eq_true, wide] at h
  rcases h with (h | h) | h
  · exact .inl (.inl h)
  · exact .inl (.inr h)
  · refine .inr ?_
    unfold CMulW; omega
theorem op_repB : OpR X (binaryOp .Mult) (rI (fun i j => CMul i j ∨ CMulW i j) fun i j => .int (i * j)) :=
  OpR.imp (op_mul.or op_mulW) fun x y H Q ⟨i, j, e1, e2, c, q⟩ => c.imp (fun c => ⟨i, j, e1, e2, c, q⟩) fun c => ⟨i, j, e1, e2, c, q⟩
theorem op_mulD {live : Bool} : OpR X (binaryOp .Mult) (rD X.K (mulD live)) := by
  refine OpR.imp (op_repB.or (op_repT.or (op_rep.or (op_rep1.or (op_rep0.or op_repF))))) fun x y H Q ⟨Fr, ρ, h, d, e, r, d1, d2, p, q, k⟩ => ?_
  unfold mulD at q
  split at q
  · rename_i j
    split at q
    · split at q
      · rename_i c
        cases q
        exact .inl ⟨_, _, rd_int.mp d1, rd_int.mp d2, mulOk_ok c, k.same r (rd_int.mpr rfl)⟩
      · cases q
    · split at q
      · rename_i c
        cases q
        obtain ⟨a, xs, rfl, s1, q1⟩ := d1.sqT
        have hne : xs ≠ [] := fun z => c.1 (by
          have l0 := q1.length
          rw [z, List.length_nil, List.length_eq_zero_iff] at l0
          exact l0)
        by_cases h2 : 2 ≤ j
        · exact .inr (.inl ⟨a, j, xs, rfl, rd_int.mp d2, s1, hne, h2, c.2.2.1, by rw [← q1.length]; exact c.2.2.2, fun p hp => k.tup r (q1.rep _) hp⟩)
        by_cases h1 : j = 1
        · subst h1
          exact .inr (.inr (.inr (.inl ⟨a, xs, rfl, rd_int.mp d2, s1, k.same r (by simpa using d1)⟩)))
        · have e0 : j.toNat = 0 := by omega
          rw [e0] at k
          exact .inr (.inr (.inr (.inr (.inl ⟨a, j, xs, rfl, rd_int.mp d2, s1, hne, c.2.1, by omega, fun p hp => k.tup r RDs.nil hp⟩))))
      · cases q
    · rename_i i
      split at q
      · rename_i c
        cases q
        have d1' := d1
        unfold RD at d1'
        obtain ⟨a, rfl, k1⟩ := d1'
        have hne : i.map V.int ≠ [] := fun z => c.1 (List.map_eq_nil_iff.mp z)
        by_cases h2 : 2 ≤ j
        · refine .inr (.inr (.inr (.inr (.inr ⟨a, j, _, rfl, rd_int.mp d2, k1.sqT, hne, h2, c.2.2.1, by rw [List.length_map]; exact c.2.2.2, fun p o hp ho => ?_⟩))))
          have e : (List.replicate j.toNat (i.map V.int)).flatten = ((List.replicate j.toNat i).flatten).map V.int := by rw [List.map_flatten, List.map_replicate]
          rw [e]
          exact k.ktp r hp ho
        · have e1 : j = 1 := by omega
          subst e1
          exact .inr (.inr (.inr (.inl ⟨a, _, rfl, rd_int.mp d2, k1.sqT, k.same r (by simpa using d1)⟩)))
      · cases q
    · split at q
      · rename_i i h1
        split at q
        · rename_i c
          obtain ⟨a, xs, rfl, s1, q1⟩ := r.lstOf d1 h1
          exact .inr (.inr (.inl ⟨a, j, xs, rfl, rd_int.mp d2, s1, c.1, c.2.1, by rw [← q1.length]; exact lineOk_le c.2.2, fun p hp => k.lst q r (q1.rep _) hp⟩))
        · cases q
      · cases q
  · cases q
theorem op_none {f : Value → Value → Sem Value} : OpR X f (rD X.K fun _ _ _ => none) := fun _ _ _ _ _ _ _ _ _ _ _ _ ⟨_, _, _, _, _, _, _, _, _, q, _⟩ => nomatch q
theorem op_bin (op : Operator) (live : Bool) : OpR X (binaryOp op) (rD X.K (binop op live)) := by
  cases op
  case Add => exact op_addD
  case Sub => exact op_int20 op_sub
  case Mult => exact op_mulD
  case FloorDiv => exact op_int2 op_fdivW fun i j h => (of_decide_eq_true h : 0 < j ∧ j.natAbs.log2 < 9000)
  case Mod => exact op_int2 op_mod fun i j h => of_decide_eq_true h
  case Pow => exact op_int2 op_pow fun i j h => (of_decide_eq_true h : 0 ≤ j ∧ j ≤ 1000000 ∧ i.natAbs < 2 ^ 64)
  case LShift => exact op_int2 op_shl fun i j h => (of_decide_eq_true h : 0 ≤ j ∧ j ≤ 1000000 ∧ i.natAbs < 2 ^ 64)
  case RShift => exact op_int2 op_shr fun i j h => of_decide_eq_true h
  case BitAnd => exact op_int20 op_and
  all_goals exact op_none
theorem un_negD : UnR X (unaryOp .USub) (rD1 X.K negD) :=
  UnR.imp un_neg fun x H Q ⟨Fr, ρ, h, d, r, d1, p, q, k⟩ => by
    unfold negD at q
    split at q
    · cases q; exact ⟨_, rd_int.mp d1, k.same r (rd_int.mpr rfl)⟩
    · cases q

/-! ### data as trees -/
section
variable {K : PySem.W.Frag} {Fr ρ : List Addr} {H : Hp} {h : Hq}
theorem dp_ints {K : PySem.W.Frag} {H : Hp} : ∀ ns : List Int, DpAll K H (ns.map V.int) (ns.map PyData.int)
  | [] => .nil
  | n :: ns => .cons (.int n) (dp_ints ns)
mutual
theorem RD.dp : ∀ (d : D) (p : PyData) (v : V), D.py d = some p → RD K Fr ρ H d v → Dp K H v p
  | .non, _, _, e, r => by unfold D.py at e; cases e; unfold RD at r; subst r; exact .non
  | .bl _, _, _, e, r => by unfold D.py at e; cases e; unfold RD at r; subst r; exact .bl _
  | .int _, _, _, e, r => by unfold D.py at e; cases e; unfold RD at r; subst r; exact .int _
  | .str _, _, _, e, r => by unfold D.py at e; cases e; unfold RD at r; subst r; exact .str _
  | .tup ds, _, _, e, r => by
    unfold D.py at e
    obtain ⟨ps, e1, rfl⟩ := Option.map_eq_some_iff.mp e
    obtain ⟨a, vs, rfl, s, q⟩ := r.sqT
    exact .tup s (RDs.dps ds ps vs e1 q)
  | .lst ds, _, _, e, r => by
    unfold D.py at e
    obtain ⟨ps, e1, rfl⟩ := Option.map_eq_some_iff.mp e
    obtain ⟨a, vs, rfl, s, q⟩ := r.sqL
    exact .lst (.of s) (RDs.dps ds ps vs e1 q)
  | .scr _, _, _, e, _ => by unfold D.py at e; cases e
  | .ktp ns, _, _, e, r => by
    unfold D.py at e; cases e
    unfold RD at r
    obtain ⟨a, rfl, k⟩ := r
    exact .tup k.sqT (dp_ints ns)
  | .ref _, _, _, e, _ => by unfold D.py at e; cases e
  | .dct _, _, _, e, _ => by unfold D.py at e; cases e
  | .exn _ _, _, _, e, _ => by unfold D.py at e; cases e
theorem RDs.dps : ∀ (ds : List D) (ps : List PyData) (vs : List V), D.pys ds = some ps → RDs K Fr ρ H ds vs → DpAll K H vs ps
  | [], _, _, e, r => by unfold D.pys at e; cases e; unfold RDs at r; subst r; exact .nil
  | d :: ds, _, _, e, r => by
    unfold D.pys at e
    split at e
    · rename_i a b e1 e2
      cases e
      unfold RDs at r
      obtain ⟨v, t, rfl, k, q⟩ := r
      exact .cons (RD.dp d _ _ e1 k) (RDs.dps ds _ _ e2 q)
    · cases e
end
def Melts (K : PySem.W.Frag) (Fr ρ : List Addr) (H : Hp) (g : List D → Option (List D)) : Prop := ∀ ds ds' ps vs, g ds = some ds' → D.pys ds' = some ps → RDs K Fr ρ H ds vs → DpAll K H vs ps
mutual
theorem melt_dp (r0 : HR K Fr ρ h H) {g : List D → Option (List D)} (hg : Melts K Fr ρ H g) : ∀ (d d' : D) (p : PyData) (v : V), D.melt g h d = some d' → D.py d' = some p → RD K Fr ρ H d v → Dp K H v p
  | .non, _, _, _, m, e, r => by unfold D.melt at m; cases m; exact RD.dp _ _ _ e r
  | .bl _, _, _, _, m, e, r => by unfold D.melt at m; cases m; exact RD.dp _ _ _ e r
  | .int _, _, _, _, m, e, r => by unfold D.melt at m; cases m; exact RD.dp _ _ _ e r
  | .str _, _, _, _, m, e, r => by unfold D.melt at m; cases m; exact RD.dp _ _ _ e r
  | .scr _, _, _, _, m, e, r => by unfold D.melt at m; cases m; exact RD.dp _ _ _ e r
  | .ktp _, _, _, _, m, e, r => by unfold D.melt at m; cases m; exact RD.dp _ _ _ e r
  | .tup ds, _, _, _, m, e, r => by
    unfold D.melt at m
    obtain ⟨es, e1, rfl⟩ := Option.map_eq_some_iff.mp m
    unfold D.py at e
    obtain ⟨ps, e2, rfl⟩ := Option.map_eq_some_iff.mp e
    obtain ⟨a, vs, rfl, s, q⟩ := r.sqT
    exact .tup s (melts_dp r0 hg ds es ps vs e1 e2 q)
  | .lst ds, _, _, _, m, e, r => by
    unfold D.melt at m
    obtain ⟨es, e1, rfl⟩ := Option.map_eq_some_iff.mp m
    unfold D.py at e
    obtain ⟨ps, e2, rfl⟩ := Option.map_eq_some_iff.mp e
    obtain ⟨a, vs, rfl, s, q⟩ := r.sqL
    exact .lst (.of s) (melts_dp r0 hg ds es ps vs e1 e2 q)
  | .ref n, _, _, _, m, e, r => by
    unfold D.melt at m
    split at m
    · rename_i ds hn
      obtain ⟨es, e1, rfl⟩ := Option.map_eq_some_iff.mp m
      unfold D.py at e
      obtain ⟨ps, e2, rfl⟩ := Option.map_eq_some_iff.mp e
      obtain ⟨a, vs, rfl, _, s, q⟩ := r0.lst r hn
      exact .lst (.of s) (hg ds es ps vs e1 e2 q)
    · cases m
  | .dct _, _, _, _, _, _, r => by unfold RD at r; exact r.elim
  | .exn _ _, _, _, _, _, _, r => by unfold RD at r; exact r.elim
theorem melts_dp (r0 : HR K Fr ρ h H) {g : List D → Option (List D)} (hg : Melts K Fr ρ H g) : ∀ (ds ds' : List D) (ps : List PyData) (vs : List V), D.melts g h ds = some ds' → D.pys ds' = some ps → RDs K Fr ρ H ds vs → DpAll K H vs ps
  | [], _, _, _, m, e, r => by unfold D.melts at m; cases m; exact RDs.dps _ _ _ e r
  | d :: ds, _, _, _, m, e, r => by
    unfold D.melts at m
    split at m
    · rename_i a b e1 e2
      cases m
      unfold D.pys at e
      split at e
      · rename_i a b e3 e4
        cases e
        unfold RDs at r
        obtain ⟨v, t, rfl, k, q⟩ := r
        exact .cons (melt_dp r0 hg d _ _ _ e1 e3 k) (melts_dp r0 hg ds _ _ _ e2 e4 q)
      · cases e
    · cases m
end
theorem meltN_dp (r0 : HR K Fr ρ h H) : ∀ k, Melts K Fr ρ H (meltN h k)
  | 0 => fun ds ds' ps vs m e r => by
    unfold meltN at m
    split at m
    · cases m; exact RDs.dps _ _ _ e r
    · cases m
  | k + 1 => fun ds ds' ps vs m e r => melts_dp r0 (meltN_dp r0 k) ds ds' ps vs m e r
theorem HR.dp (r0 : HR K Fr ρ h H) {d : D} {p : PyData} {v : V} (e : pyOf h d = some p) (r : RD K Fr ρ H d v) : Dp K H v p := by
  unfold pyOf melt1 at e
  split at e
  · rename_i x hx
    have e : D.py x = some p := e
    have q := meltN_dp r0 3 [d] [x] [p] [v] hx (by simp [D.pys, e]) (.cons r .nil)
    cases q with
    | cons a _ => exact a
  · cases e
end

/-! ### comparisons -/
theorem op_intC {f : Value → Value → Sem Value} {g : Int → Int → Bool} (o : OpR X f (rI0 fun i j => .bl (g i j))) : OpR X f (rD X.K (intC g)) :=
  OpR.imp o fun x y H Q ⟨Fr, ρ, h, d, e, r, d1, d2, p, q, k⟩ => by
    unfold intC at q
    split at q
    · cases q
      exact ⟨_, _, rd_int.mp d1, rd_int.mp d2, k.same r (rd_bl.mpr rfl)⟩
    · cases q
theorem ofO_some {α : Type} {h : Hq} {o : Option α} {p : α × Hq} (e : ofO h o = some p) : o = some p.1 ∧ p.2 = h := by
  cases o with
  | none => cases e
  | some a => cases e; exact ⟨rfl, rfl⟩
section
variable {K : PySem.W.Frag} {Fr ρ : List Addr} {H : Hp} {h : Hq}
theorem scal_of {d e : D} {x y : V} {b : Bool} (s : scalEq d e = some b) (r1 : RD K Fr ρ H d x) (r2 : RD K Fr ρ H e y) : scal x y = true ∧ decide (x = y) = b := by
  unfold scalEq at s
  split at s
  · cases s; rw [rd_non.mp r1, rd_non.mp r2]; exact ⟨rfl, by simp⟩
  · cases s; rw [rd_int.mp r1, rd_int.mp r2]; exact ⟨rfl, dec_int⟩
  · cases s; rw [rd_str.mp r1, rd_str.mp r2]; exact ⟨rfl, dec_str⟩
  · cases s; rw [rd_bl.mp r1, rd_bl.mp r2]; exact ⟨rfl, dec_bl⟩
  · cases s
theorem eq_of (r0 : HR K Fr ρ h H) {d e : D} {x y : V} {b : Bool} (s : eqD h d e = some b) (r1 : RD K Fr ρ H d x) (r2 : RD K Fr ρ H e y) :
    (scal x y = true ∧ decide (x = y) = b) ∨ ∃ p q, Dp K H x p ∧ Dp K H y q ∧ SeqAt.shaped p = true ∧ SeqAt.shaped q = true ∧ PyData.eqv p q = b := by
  unfold eqD at s
  split at s
  · rename_i c hc
    cases s
    exact .inl (scal_of hc r1 r2)
  · split at s
    · rename_i p q hp hq
      unfold eqPy at s
      split at s
      · rename_i c
        cases s
        rw [Bool.and_eq_true] at c
        exact .inr ⟨p, q, r0.dp hp r1, r0.dp hq r2, c.1, c.2, rfl⟩
      · cases s
    · cases s
end
theorem op_eqE (hu : X.A.units + 64 < cLine) : OpR X (compareOp .Eq) (rD X.K (cmpop .Eq)) := by
  refine OpR.imp (op_eq.or (op_eqD hu)) fun x y H Q ⟨Fr, ρ, h, d, e, r, d1, d2, p, q, k⟩ => ?_
  obtain ⟨q1, q2⟩ := ofO_some (show ofO h ((eqD h d e).map D.bl) = some p from q)
  obtain ⟨b, e1, e2⟩ := Option.map_eq_some_iff.mp q1
  obtain ⟨p1, p2⟩ := p
  dsimp only at q2 e2
  subst q2 e2
  rcases eq_of r e1 d1 d2 with ⟨s, e3⟩ | ⟨u, w, a1, a2, a3, a4, e3⟩
  · exact .inl ⟨s, by rw [e3]; exact k.same r (rd_bl.mpr rfl)⟩
  · exact .inr ⟨u, w, a1, a2, a3, a4, by rw [e3]; exact k.same r (rd_bl.mpr rfl)⟩
theorem op_neE (hu : X.A.units + 64 < cLine) : OpR X (compareOp .NotEq) (rD X.K (cmpop .NotEq)) := by
  refine OpR.imp (op_ne.or (op_neD hu)) fun x y H Q ⟨Fr, ρ, h, d, e, r, d1, d2, p, q, k⟩ => ?_
  obtain ⟨q1, q2⟩ := ofO_some (show ofO h ((eqD h d e).map fun b => D.bl (!b)) = some p from q)
  obtain ⟨b, e1, e2⟩ := Option.map_eq_some_iff.mp q1
  obtain ⟨p1, p2⟩ := p
  dsimp only at q2 e2
  subst q2 e2
  rcases eq_of r e1 d1 d2 with ⟨s, e3⟩ | ⟨u, w, a1, a2, a3, a4, e3⟩
  · exact .inl ⟨s, by rw [e3]; exact k.same r (rd_bl.mpr rfl)⟩
  · exact .inr ⟨u, w, a1, a2, a3, a4, by rw [e3]; exact k.same r (rd_bl.mpr rfl)⟩
end
end FF

/-! FFSE2: comparisons, subscripts, slices. -/
namespace FF
open PySem PySem.Spec PyProof.Rows L2

section
variable {K : PySem.W.Frag} {Fr ρ : List Addr} {H : Hp} {h : Hq}
theorem kv_of_key {d : D} {k : Key} {v : V} (e : keyOf d = some k) (r : RD K Fr ρ H d v) : v = kV k := by
  unfold keyOf at e
  split at e
  · cases e; exact rd_int.mp r
  · cases e; exact rd_str.mp r
  · cases e
theorem kvs_of_keys : ∀ {ds : List D} {ks : List Key} {vs : List V}, keysOf ds = some ks → RDs K Fr ρ H ds vs → vs = ks.map kV
  | [], _, _, e, r => by unfold keysOf at e; cases e; unfold RDs at r; exact r
  | d :: ds, _, _, e, r => by
    unfold keysOf at e
    split at e
    · rename_i k ks e1 e2
      cases e
      unfold RDs at r
      obtain ⟨v, t, rfl, a, b⟩ := r
      rw [kv_of_key e1 a, kvs_of_keys e2 b]; rfl
    · cases e
section
variable {κ : Type} [DecidableEq κ]
theorem KR.nil : KR K Fr ρ H ([] : List (κ × D)) [] := ⟨rfl, RDs.nil⟩
theorem KR.cases {p : κ × D} {kvs : List (κ × D)} {vs : List (κ × V)} (r : KR K Fr ρ H (p :: kvs) vs) : ∃ v t, vs = (p.1, v) :: t ∧ RD K Fr ρ H p.2 v ∧ KR K Fr ρ H kvs t := by
  obtain ⟨e, q⟩ := r
  cases vs with
  | nil => simp at e
  | cons a t =>
    simp only [List.map_cons, List.cons.injEq] at e
    rw [List.map_cons, List.map_cons] at q
    unfold RDs at q
    obtain ⟨v, t', e2, a1, b1⟩ := q
    simp only [List.cons.injEq] at e2
    obtain ⟨e2, e3⟩ := e2
    subst e3
    refine ⟨a.2, t, ?_, by rw [e2]; exact a1, e.2, b1⟩
    rw [e.1]
theorem KR.cons {k : κ} {d : D} {v : V} {kvs : List (κ × D)} {vs : List (κ × V)} (a : RD K Fr ρ H d v) (b : KR K Fr ρ H kvs vs) : KR K Fr ρ H ((k, d) :: kvs) ((k, v) :: vs) :=
  ⟨by simp [b.1], by rw [List.map_cons, List.map_cons]; exact .cons a b.2⟩
theorem KR.length {kvs : List (κ × D)} {vs : List (κ × V)} (r : KR K Fr ρ H kvs vs) : kvs.length = vs.length := by
  have := congrArg List.length r.1; simpa using this
theorem KR.get {k : κ} : ∀ {kvs : List (κ × D)} {vs : List (κ × V)}, KR K Fr ρ H kvs vs → (kget kvs k = none ∧ valV vs k = none) ∨ ∃ d v, kget kvs k = some d ∧ valV vs k = some v ∧ RD K Fr ρ H d v
  | [], vs, r => by
    have := r.length
    cases vs with
    | nil => exact .inl ⟨rfl, rfl⟩
    | cons _ _ => simp at this
  | p :: kvs, vs, r => by
    obtain ⟨v, t, rfl, a, b⟩ := r.cases
    by_cases e : p.1 = k
    · exact .inr ⟨p.2, v, by simp [kget, e], by simp [valV, e], a⟩
    · have e1 : kget (p :: kvs) k = kget kvs k := by simp [kget, List.find?_cons, e]
      have e2 : valV ((p.1, v) :: t) k = valV t k := by simp [valV, List.find?_cons, e]
      rw [e1, e2]
      exact KR.get b
theorem KR.isSome {k : κ} {kvs : List (κ × D)} {vs : List (κ × V)} (r : KR K Fr ρ H kvs vs) : (valV vs k).isSome = (kget kvs k).isSome := by
  rcases r.get (k := k) with ⟨a, b⟩ | ⟨d, v, a, b, _⟩ <;> rw [a, b] <;> rfl
theorem KR.app {kvs : List (κ × D)} {vs : List (κ × V)} {k : κ} {d : D} {v : V} (r : KR K Fr ρ H kvs vs) (a : RD K Fr ρ H d v) : KR K Fr ρ H (kvs ++ [(k, d)]) (vs ++ [(k, v)]) :=
  ⟨by simp [r.1], by rw [List.map_append, List.map_append]; exact r.2.append (.cons a .nil)⟩
theorem KR.repl {k : κ} {d : D} {v : V} (a : RD K Fr ρ H d v) : ∀ {kvs : List (κ × D)} {vs : List (κ × V)}, KR K Fr ρ H kvs vs →
    KR K Fr ρ H (kvs.map fun kv => if kv.1 = k then (kv.1, d) else kv) (vs.map fun kv => if kv.1 = k then (kv.1, v) else kv)
  | [], vs, r => by
    have := r.length
    cases vs with
    | nil => exact .nil
    | cons _ _ => simp at this
  | p :: kvs, vs, r => by
    obtain ⟨w, t, rfl, a1, b⟩ := r.cases
    rw [List.map_cons, List.map_cons]
    by_cases e : p.1 = k
    · rw [if_pos e, if_pos e]; exact .cons a (KR.repl a b)
    · rw [if_neg e, if_neg e]; exact KR.cons (k := p.1) a1 (KR.repl a b)
theorem KR.anyKey {k : κ} {kvs : List (κ × D)} {vs : List (κ × V)} (r : KR K Fr ρ H kvs vs) : (vs.any fun kv => decide (kv.1 = k)) = kvs.any fun kv => decide (kv.1 = k) := by
  have e1 : (vs.any fun kv => decide (kv.1 = k)) = (vs.map (·.1)).any fun x => decide (x = k) := by rw [List.any_map]; rfl
  have e2 : (kvs.any fun kv => decide (kv.1 = k)) = (kvs.map (·.1)).any fun x => decide (x = k) := by rw [List.any_map]; rfl
  rw [e1, e2, r.1]
theorem KR.put {k : κ} {d : D} {v : V} {kvs : List (κ × D)} {vs : List (κ × V)} (r : KR K Fr ρ H kvs vs) (a : RD K Fr ρ H d v) : KR K Fr ρ H (kput kvs k d) (putK vs k v) := by
  unfold kput putK
  rw [r.anyKey]
  split
  · exact r.repl a
  · exact r.app a
theorem KR.drop {k : κ} : ∀ {kvs : List (κ × D)} {vs : List (κ × V)}, KR K Fr ρ H kvs vs → KR K Fr ρ H (kdrop kvs k) (dropK vs k)
  | [], vs, r => by
    have := r.length
    cases vs with
    | nil => exact .nil
    | cons _ _ => simp at this
  | p :: kvs, vs, r => by
    obtain ⟨w, t, rfl, a1, b⟩ := r.cases
    unfold kdrop dropK
    rw [List.filter_cons, List.filter_cons]
    have ih : KR K Fr ρ H (kdrop kvs k) (dropK t k) := KR.drop b
    unfold kdrop dropK at ih
    by_cases e : p.1 = k
    · simp only [e, ne_eq, not_true_eq_false, decide_false, Bool.false_eq_true, if_false]; exact ih
    · simp only [ne_eq, e, not_false_eq_true, decide_true, if_true]; exact KR.cons (k := p.1) a1 ih
end

/-! ### flat things in a sequence -/
theorem flat_of {d : D} {v : V} (r : RD K Fr ρ H d v) (f : flatD d = true) : flatV v = true := by
  cases d <;> first | (cases f; done) | skip
  · rw [rd_non.mp r]; rfl
  · rw [rd_bl.mp r]; rfl
  · rw [rd_int.mp r]; rfl
  · rw [rd_str.mp r]; rfl
theorem eqFl_of {d e : D} {x y : V} (r1 : RD K Fr ρ H d x) (r2 : RD K Fr ρ H e y) (f1 : flatD d = true) (f2 : flatD e = true) : eqV x y = eqFl d e := by
  cases d <;> first | (cases f1; done) | skip
  all_goals (cases e <;> first | (cases f2; done) | skip)
  all_goals (simp only [rd_non, rd_bl, rd_int, rd_str] at r1 r2; subst r1 r2; rfl)
theorem flats_of : ∀ {ds : List D} {vs : List V}, RDs K Fr ρ H ds vs → ds.all flatD = true → vs.all flatV = true
  | [], _, r, _ => by unfold RDs at r; subst r; rfl
  | d :: ds, _, r, f => by
    unfold RDs at r
    obtain ⟨v, t, rfl, a, b⟩ := r
    rw [List.all_cons, Bool.and_eq_true] at f ⊢
    exact ⟨flat_of a f.1, flats_of b f.2⟩
theorem anyFl_of {d : D} {x : V} (r : RD K Fr ρ H d x) (f : flatD d = true) : ∀ {ds : List D} {vs : List V}, RDs K Fr ρ H ds vs → ds.all flatD = true → inV x vs = ds.any fun e => eqFl e d
  | [], _, r, _ => by unfold RDs at r; subst r; rfl
  | e :: ds, _, q, g => by
    unfold RDs at q
    obtain ⟨v, t, rfl, a, b⟩ := q
    rw [List.all_cons, Bool.and_eq_true] at g
    unfold inV
    rw [List.any_cons, List.any_cons, eqFl_of a r g.1 f]
    have := anyFl_of r f b g.2
    unfold inV at this
    rw [this]
end

section
variable {X : Cx}
/-- y in a dict, as an operator -/
def rDIn (neg : Bool) : R2 := fun y x H Q => ∃ a o, x = .ref a ∧ DGet H a y o ∧ Q (.bl (if neg then !o.isSome else o.isSome)) H
theorem op_dIn (hu : X.A.units + 1 < cLine) : OpR X (compareOp .In) (rDIn false) := by
  intro pins s σ H x y v u Q I rx ry hq
  obtain ⟨a, o, rfl, g, q⟩ := hq
  cases ry
  exact d_in hu I g rx fun s' I' => ⟨.bl _, H, I', rfl, q⟩
theorem op_dNotIn (hu : X.A.units + 1 < cLine) : OpR X (compareOp .NotIn) (rDIn true) := by
  intro pins s σ H x y v u Q I rx ry hq
  obtain ⟨a, o, rfl, g, q⟩ := hq
  cases ry
  exact d_notIn hu I g rx fun s' I' => ⟨.bl _, H, I', rfl, q⟩
section
variable {K : PySem.W.Frag} {Fr ρ : List Addr} {H : Hp} {h : Hq}
theorem in_of (r0 : HR K Fr ρ h H) {d e : D} {x y : V} {b : Bool} (s : inD h d e = some b) (r1 : RD K Fr ρ H d x) (r2 : RD K Fr ρ H e y) :
    (∃ i j, x = .str i ∧ y = .str j ∧ (!(Builtin.Str.occurrences j i 0 j.length 1).isEmpty) = b) ∨
    (∃ p xs, y = .ref p ∧ (SqL K H p xs ∨ SqT K H p xs) ∧ flatV x = true ∧ xs.all flatV = true ∧ inV x xs = b) ∨
    (∃ a o, y = .ref a ∧ DGet H a x o ∧ o.isSome = b) ∨
    (∃ d ps, Dp K H x d ∧ Dp K H y (.tuple ps) ∧ SeqAt.shaped d = true ∧ SeqAt.shaped (.tuple ps) = true ∧ d.depth ≤ 60 ∧ (ps.any fun z => PyData.eqv z d) = b) ∨
    ∃ d ps, Dp K H x d ∧ Dp K H y (.list ps) ∧ SeqAt.shaped d = true ∧ SeqAt.shaped (.list ps) = true ∧ (ps.any fun z => PyData.eqv z d) = b := by
  unfold inD at s
  split at s
  · split at s
    · cases s
      exact .inl ⟨_, _, rd_str.mp r1, rd_str.mp r2, rfl⟩
    · cases s
  · rename_i n
    split at s
    · rename_i kvs hn
      obtain ⟨k, e1, e2⟩ := Option.map_eq_some_iff.mp s
      obtain ⟨a, vs, rfl, _, e3, kr⟩ := r0.dct r2 hn
      refine .inr (.inr (.inl ⟨a, valV vs k, rfl, ?_, by rw [kr.isSome, e2]⟩))
      rw [kv_of_key e1 r1]
      exact .k e3
    · rename_i kvs hn
      split at s
      · rename_i ks
        obtain ⟨k, e1, e2⟩ := Option.map_eq_some_iff.mp s
        unfold RD at r2
        obtain ⟨a, rfl, ha⟩ := r2
        obtain ⟨b', hb, vs, e3, kr⟩ := r0.at' n _ hn
        rw [ha] at hb; cases hb
        obtain ⟨c, xs, rfl, e4, q⟩ := r1.tupl
        refine .inr (.inr (.inl ⟨a, valV vs k, rfl, ?_, by rw [kr.isSome, e2]⟩))
        rw [kvs_of_keys e1 q] at e4
        exact .t e3 e4
      · cases s
    · rename_i ds hn
      split at s
      · rename_i c
        cases s
        rw [Bool.and_eq_true] at c
        obtain ⟨a, vs, rfl, _, e3, q⟩ := r0.lst r2 hn
        exact .inr (.inl ⟨a, vs, rfl, .inl (.of e3), flat_of r1 c.1, flats_of q c.2, anyFl_of r1 c.1 q c.2⟩)
      · cases s
    · cases s
  · split at s
    · rename_i ds hd
      split at s
      · rename_i c
        cases s
        rw [Bool.and_eq_true] at c
        obtain ⟨a, vs, rfl, e3, q⟩ := r0.items r2 hd
        exact .inr (.inl ⟨a, vs, rfl, e3, flat_of r1 c.1, flats_of q c.2, anyFl_of r1 c.1 q c.2⟩)
      · split at s
        · rename_i d ps h1 h2
          split at s
          · rename_i c
            cases s
            rw [Bool.and_eq_true, Bool.and_eq_true, decide_eq_true_eq] at c
            exact .inr (.inr (.inr (.inl ⟨d, ps, r0.dp h1 r1, r0.dp h2 r2, c.1.1, c.1.2, c.2, rfl⟩)))
          · cases s
        · rename_i d ps h1 h2
          split at s
          · rename_i c
            cases s
            rw [Bool.and_eq_true] at c
            exact .inr (.inr (.inr (.inr ⟨d, ps, r0.dp h1 r1, r0.dp h2 r2, c.1, c.2, rfl⟩)))
          · cases s
        · cases s
    · cases s
end
def rInT (K : PySem.W.Frag) (g : Bool → Bool) : R2 := fun x y H Q => ∃ d ps, Dp K H x d ∧ Dp K H y (.tuple ps) ∧ SeqAt.shaped d = true ∧ SeqAt.shaped (.tuple ps) = true ∧ d.depth ≤ 60 ∧ Q (.bl (g (ps.any fun z => PyData.eqv z d))) H
theorem op_inT (hu : X.A.units + 64 < cLine) : OpR X (compareOp .In) (rInT X.K id) := by
  intro pins s σ H x y v u Q I rx ry h
  obtain ⟨d, ps, hd, he, sd, se, dl, q⟩ := h
  obtain ⟨as, r1⟩ := Dp.reads I d x v hd rx
  obtain ⟨bs, r2⟩ := Dp.reads I (.tuple ps) y u he ry
  exact SeqAt.in_tuple_reads r2 r1 (SeqAt.canLay_of_shaped se) (SeqAt.canLay_of_shaped sd) (by
    have : min (PyData.depthAll ps) d.depth ≤ d.depth := Nat.min_le_right _ _
    omega) ⟨.bl _, H, I, rfl, q⟩
theorem op_notInT (hu : X.A.units + 64 < cLine) : OpR X (compareOp .NotIn) (rInT X.K not) := by
  intro pins s σ H x y v u Q I rx ry h
  obtain ⟨d, ps, hd, he, sd, se, dl, q⟩ := h
  obtain ⟨as, r1⟩ := Dp.reads I d x v hd rx
  obtain ⟨bs, r2⟩ := Dp.reads I (.tuple ps) y u he ry
  exact SeqAt.notIn_tuple_reads r2 r1 (SeqAt.canLay_of_shaped se) (SeqAt.canLay_of_shaped sd) (by
    have : min (PyData.depthAll ps) d.depth ≤ d.depth := Nat.min_le_right _ _
    omega) ⟨.bl _, H, I, rfl, q⟩
theorem op_inD (hu : X.A.units + 65 < cLine) : OpR X (compareOp .In) (rD X.K (cmpop .In)) := by
  refine OpR.imp (op_in_str.or (op_in_seq.or ((op_dIn (by omega)).or ((op_inT (by omega)).or (L2.op_inD hu))))) fun x y H Q ⟨Fr, ρ, h, d, e, r, d1, d2, p, q, k⟩ => ?_
  obtain ⟨q1, q2⟩ := ofO_some (show ofO h ((inD h d e).map D.bl) = some p from q)
  obtain ⟨b, e1, e2⟩ := Option.map_eq_some_iff.mp q1
  obtain ⟨p1, p2⟩ := p
  dsimp only at q2 e2
  subst q2 e2
  rcases in_of r e1 d1 d2 with ⟨i, j, a1, a2, a3⟩ | ⟨p, xs, a1, a2, a3, a4, a5⟩ | ⟨a, o, a1, a2, a3⟩ | ⟨dd, ps, a1, a2, a3, a4, a5, a6⟩ | ⟨dd, ps, a1, a2, a3, a4, a5⟩
  · exact .inl ⟨i, j, a1, a2, by rw [a3]; exact k.same r (rd_bl.mpr rfl)⟩
  · exact .inr (.inl ⟨p, xs, a1, a2, a3, a4, by simp only [Bool.false_eq_true, if_false]; rw [a5]; exact k.same r (rd_bl.mpr rfl)⟩)
  · exact .inr (.inr (.inl ⟨a, o, a1, a2, by simp only [Bool.false_eq_true, if_false]; rw [a3]; exact k.same r (rd_bl.mpr rfl)⟩))
  · exact .inr (.inr (.inr (.inl ⟨dd, ps, a1, a2, a3, a4, a5, by rw [a6]; exact k.same r (rd_bl.mpr rfl)⟩)))
  · exact .inr (.inr (.inr (.inr ⟨dd, ps, a1, a2, a3, a4, by rw [a5]; exact k.same r (rd_bl.mpr rfl)⟩)))
theorem op_notInD (hu : X.A.units + 65 < cLine) : OpR X (compareOp .NotIn) (rD X.K (cmpop .NotIn)) := by
  refine OpR.imp (op_notin_str.or (op_notIn_seq.or ((op_dNotIn (by omega)).or ((op_notInT (by omega)).or (L2.op_notInD hu))))) fun x y H Q ⟨Fr, ρ, h, d, e, r, d1, d2, p, q, k⟩ => ?_
  obtain ⟨q1, q2⟩ := ofO_some (show ofO h ((inD h d e).map fun b => D.bl (!b)) = some p from q)
  obtain ⟨b, e1, e2⟩ := Option.map_eq_some_iff.mp q1
  obtain ⟨p1, p2⟩ := p
  dsimp only at q2 e2
  subst q2 e2
  rcases in_of r e1 d1 d2 with ⟨i, j, a1, a2, a3⟩ | ⟨p, xs, a1, a2, a3, a4, a5⟩ | ⟨a, o, a1, a2, a3⟩ | ⟨dd, ps, a1, a2, a3, a4, a5, a6⟩ | ⟨dd, ps, a1, a2, a3, a4, a5⟩
  · exact .inl ⟨i, j, a1, a2, by rw [a3]; exact k.same r (rd_bl.mpr rfl)⟩
  · exact .inr (.inl ⟨p, xs, a1, a2, a3, a4, by simp only [if_true]; rw [a5]; exact k.same r (rd_bl.mpr rfl)⟩)
  · exact .inr (.inr (.inl ⟨a, o, a1, a2, by simp only [if_true]; rw [a3]; exact k.same r (rd_bl.mpr rfl)⟩))
  · exact .inr (.inr (.inr (.inl ⟨dd, ps, a1, a2, a3, a4, a5, by rw [a6]; exact k.same r (rd_bl.mpr rfl)⟩)))
  · exact .inr (.inr (.inr (.inr ⟨dd, ps, a1, a2, a3, a4, by rw [a5]; exact k.same r (rd_bl.mpr rfl)⟩)))
theorem op_ltE (hu : X.A.units < cLine) : OpR X (compareOp .Lt) (rD X.K (cmpop .Lt)) := by
  refine OpR.imp (op_lt.or (op_ltT hu)) fun x y H Q ⟨Fr, ρ, h, d, e, r, d1, d2, p, q, k⟩ => ?_
  obtain ⟨q1, q2⟩ := ofO_some (show ofO h ((ltD d e).map D.bl) = some p from q)
  obtain ⟨b, e1, e2⟩ := Option.map_eq_some_iff.mp q1
  obtain ⟨p1, p2⟩ := p
  dsimp only at q2 e2
  subst q2 e2
  unfold ltD at e1
  split at e1
  · cases e1
    exact .inl ⟨_, _, rd_int.mp d1, rd_int.mp d2, k.same r (rd_bl.mpr rfl)⟩
  · split at e1
    · rename_i ns ms h1 h2
      cases e1
      obtain ⟨a, xs, rfl, s1, q1⟩ := d1.sqT
      obtain ⟨b, ys, rfl, s2, q2⟩ := d2.sqT
      rw [RDs.ints h1 q1] at s1
      rw [RDs.ints h2 q2] at s2
      exact .inr ⟨a, b, ns, ms, rfl, rfl, s1, s2, k.same r (rd_bl.mpr rfl)⟩
    · cases e1
  · cases e1
theorem isNon_of {K : PySem.W.Frag} {Fr ρ : List Addr} {H : Hp} {d : D} {x : V} (r : RD K Fr ρ H d x) : decide (x = .non) = isNon d := by
  cases d with
  | non => rw [rd_non.mp r]; rfl
  | bl b => rw [rd_bl.mp r]; rfl
  | int b => rw [rd_int.mp r]; rfl
  | str b => rw [rd_str.mp r]; rfl
  | tup ds => obtain ⟨a, _, rfl, _⟩ := r.tupl; rfl
  | lst ds => obtain ⟨a, _, rfl, _⟩ := r.sqL; rfl
  | scr ds => unfold RD at r; obtain ⟨a, rfl, _⟩ := r; rfl
  | ktp ds => unfold RD at r; obtain ⟨a, rfl, _⟩ := r; rfl
  | ref ds => unfold RD at r; obtain ⟨a, rfl, _⟩ := r; rfl
  | dct _ => unfold RD at r; exact r.elim
  | exn _ _ => unfold RD at r; exact r.elim
theorem op_cmp (hu : X.A.units + 65 < cLine) (op : CmpOp) : OpR X (compareOp op) (rD X.K (cmpop op)) := by
  cases op
  case Eq => exact op_eqE (by omega)
  case NotEq => exact op_neE (by omega)
  case Lt => exact op_ltE (by omega)
  case LtE => exact op_intC op_le
  case Gt => exact op_intC op_gt
  case GtE => exact op_intC op_ge
  case Is =>
    refine OpR.imp (op_isN.or op_isBl) fun x y H Q ⟨Fr, ρ, h, d, e, r, d1, d2, p, q, k⟩ => ?_
    have q : (if isNon e then some (D.bl (isNon d), h) else isBB id d e h) = some p := q
    split at q
    · rename_i hn
      cases q
      refine .inl ⟨of_decide_eq_true ((isNon_of d2).trans hn), ?_⟩
      rw [isNon_of d1]
      exact k.same r (rd_bl.mpr rfl)
    · unfold isBB at q
      split at q
      · cases q
        exact .inr ⟨_, _, rd_bl.mp d1, rd_bl.mp d2, k.same r (rd_bl.mpr rfl)⟩
      · cases q
  case IsNot =>
    refine OpR.imp (op_notN.or op_notBl) fun x y H Q ⟨Fr, ρ, h, d, e, r, d1, d2, p, q, k⟩ => ?_
    have q : (if isNon e then some (D.bl (!isNon d), h) else isBB not d e h) = some p := q
    split at q
    · rename_i hn
      cases q
      refine .inl ⟨of_decide_eq_true ((isNon_of d2).trans hn), ?_⟩
      rw [isNon_of d1]
      exact k.same r (rd_bl.mpr rfl)
    · unfold isBB at q
      split at q
      · cases q
        exact .inr ⟨_, _, rd_bl.mp d1, rd_bl.mp d2, k.same r (rd_bl.mpr rfl)⟩
      · cases q
  case In => exact op_inD (by omega)
  case NotIn => exact op_notInD (by omega)
end
end FF

/-! FFSE3: subscripts, slices, stores, built-ins by values. -/
namespace FF
open PySem PySem.Spec PyProof.Rows L2

section
variable {X : Cx}
theorem rds_at {K : PySem.W.Frag} {Fr ρ : List Addr} {H : Hp} {ds : List D} {vs : List V} {i : Int} {d : D} (r : RDs K Fr ρ H ds vs) (e : at? ds i = some d) : ∃ v, atI vs i = some v ∧ RD K Fr ρ H d v := by
  unfold at? atI at e
  obtain ⟨j, e1, e2⟩ := Option.bind_eq_some_iff.mp e
  obtain ⟨v, e3, q⟩ := r.get e2
  refine ⟨v, ?_, q⟩
  unfold atI
  rw [← r.length, e1]
  exact e3
/-- a subscript that is no dict's -/
def isDctRef (h : Hq) : D → Bool
  | .ref n => match h[n]? with | some (.dct _) => true | some (.dctT _) => true | _ => false
  | _ => false
theorem ix_plain : IxR X (rD X.K fun x i h => if isDctRef h x then none else ixD x i h) := by
  refine IxR.imp ix_seq fun x y H Q ⟨Fr, ρ, h, d, e, r, d1, d2, p, q, k⟩ => ?_
  dsimp only at q
  split at q
  · cases q
  · rename_i nd
    unfold ixD at q
    split at q
    · split at q
      · rename_i hl
        split at q
        · rename_i c hc
          cases q
          exact .inr (.inr ⟨_, _, c, rd_str.mp d1, rd_int.mp d2, lineOk_le hl, hc, k.same r (rd_str.mpr rfl)⟩)
        · cases q
      · cases q
    · rename_i n i
      split at q
      · rename_i ds hn
        split at q
        · obtain ⟨q1, q2⟩ := ofO_some q
          obtain ⟨a, vs, rfl, _, e3, rs⟩ := r.lst d1 hn
          obtain ⟨v, e4, e5⟩ := rds_at rs q1
          obtain ⟨p1, p2⟩ := p
          dsimp only at q2 e5
          subst q2
          exact .inl ⟨a, vs, _, v, rfl, rd_int.mp d2, .of e3, e4, k.same r e5⟩
        · cases q
      · rename_i kvs hn; exact absurd (by unfold isDctRef; dsimp only; rw [hn]) nd
      · rename_i kvs hn; exact absurd (by unfold isDctRef; dsimp only; rw [hn]) nd
      · cases q
    · split at q
      · rename_i ds hd
        obtain ⟨q1, q2⟩ := ofO_some q
        obtain ⟨a, vs, rfl, e3, rs⟩ := r.items d1 hd
        obtain ⟨v, e4, e5⟩ := rds_at rs q1
        obtain ⟨p1, p2⟩ := p
        dsimp only at q2 e5
        subst q2
        rcases e3 with e3 | e3
        · exact .inl ⟨a, vs, _, v, rfl, rd_int.mp d2, e3, e4, k.same r e5⟩
        · exact .inr (.inl ⟨a, vs, _, v, rfl, rd_int.mp d2, e3, e4, k.same r e5⟩)
      · cases q
    · cases q
theorem dget_of {K : PySem.W.Frag} {Fr ρ : List Addr} {H : Hp} {h : Hq} (r : HR K Fr ρ h H) {d e : D} {x y : V} {p : D × Hq} (d1 : RD K Fr ρ H d x) (d2 : RD K Fr ρ H e y) (nd : isDctRef h d = true) (q : ixD d e h = some p) :
    ∃ a v, x = .ref a ∧ DGet H a y (some v) ∧ RD K Fr ρ H p.1 v ∧ p.2 = h := by
  unfold isDctRef at nd
  split at nd
  · rename_i n
    unfold ixD at q
    dsimp only at q
    split at nd
    · rename_i kvs hn
      rw [hn] at q
      dsimp only at q
      split at q
      · rename_i k hk
        obtain ⟨q1, q2⟩ := ofO_some q
        obtain ⟨a, vs, rfl, _, e3, kr⟩ := r.dct d1 hn
        rcases kr.get (k := k) with ⟨z, _⟩ | ⟨d', v, z1, z2, z3⟩
        · rw [z] at q1; cases q1
        · rw [z1] at q1; cases q1
          refine ⟨a, v, rfl, ?_, z3, q2⟩
          rw [kv_of_key hk d2, ← z2]
          exact .k e3
      · cases q
    · rename_i kvs hn
      rw [hn] at q
      dsimp only at q
      split at q
      · split at q
        · rename_i ks k hk
          obtain ⟨q1, q2⟩ := ofO_some q
          unfold RD at d1
          obtain ⟨a, rfl, ha⟩ := d1
          obtain ⟨b', hb, vs, e3, kr⟩ := r.at' n _ hn
          rw [ha] at hb; cases hb
          obtain ⟨c, xs, rfl, e4, qs⟩ := d2.tupl
          rcases kr.get (k := k) with ⟨z, _⟩ | ⟨d', v, z1, z2, z3⟩
          · rw [z] at q1; cases q1
          · rw [z1] at q1; cases q1
            refine ⟨a, v, rfl, ?_, z3, q2⟩
            rw [kvs_of_keys hk qs] at e4
            rw [← z2]
            exact .t e3 e4
        · cases q
      · cases q
    · cases nd
  · cases nd
/-- one of two ways, by what was reckoned -/
theorem TEk.split2 {K : PySem.W.Frag} {W : EK K} {fa fb : Env' → Hq → R (D × Hq)} {g : D → D → Hq → Option (D × Hq)} (A : D → D → Hq → Bool) {σ : L2.St} {H : Hp} {Q : VK}
    (t : TEk K W (fun s h => (fa s h).bind fun p => (fb s p.2).bind fun q => lift (g p.1 q.1 q.2)) σ H Q) :
    TEk K W (fun s h => (fa s h).bind fun p => (fb s p.2).bind fun q => lift (if A p.1 q.1 q.2 then none else g p.1 q.1 q.2)) σ H Q ∨
    TEk K W (fun s h => (fa s h).bind fun p => (fb s p.2).bind fun q => lift (if A p.1 q.1 q.2 then g p.1 q.1 q.2 else none)) σ H Q := by
  obtain ⟨Fr, ρ, s, h, r, sr, ok⟩ := t
  dsimp only at ok
  unfold TEk
  dsimp only
  cases e1 : fa s h with
  | exc e q => exact .inl ⟨Fr, ρ, s, h, r, sr, by rw [e1] at ok ⊢; exact ok⟩
  | stuck => rw [e1] at ok; exact ok.elim
  | ok p =>
    rw [e1] at ok
    cases e2 : fb s p.2 with
    | exc e q =>
      have ok : okR _ _ ((fb s p.2).bind _) := ok
      rw [e2] at ok
      exact .inl ⟨Fr, ρ, s, h, r, sr, by rw [e1]; show okR _ _ ((fb s p.2).bind _); rw [e2]; exact ok⟩
    | stuck =>
      have ok : okR _ _ ((fb s p.2).bind _) := ok
      rw [e2] at ok; exact ok.elim
    | ok q =>
      have ok : okR _ _ ((fb s p.2).bind _) := ok
      rw [e2] at ok
      cases e3 : A p.1 q.1 q.2 with
      | false => exact .inl ⟨Fr, ρ, s, h, r, sr, by rw [e1]; show okR _ _ ((fb s p.2).bind _); rw [e2]; show okR _ _ (lift (if A p.1 q.1 q.2 = true then none else _)); rw [e3]; exact ok⟩
      | true => exact .inr ⟨Fr, ρ, s, h, r, sr, by rw [e1]; show okR _ _ ((fb s p.2).bind _); rw [e2]; show okR _ _ (lift (if A p.1 q.1 q.2 = true then _ else none)); rw [e3]; exact ok⟩
theorem se_ix {W : EK X.K} {a b : Expr} {pos : Pos} {fa fb : Env' → Hq → R (D × Hq)} (hu : X.A.units + 1 < cLine) (ha : SE X W a fa) (hb : SE X W b fb) (hs : PlainIx b) :
    SE X W (.Subscript a b pos) (fun s h => (fa s h).bind fun p => (fb s p.2).bind fun q => lift (ixD p.1 q.1 q.2)) := by
  refine PE.imp (PE.or (pe_ix ix_plain ha hb hs) (pe_dget hu ha hb hs)) fun σ H Q t => ?_
  rcases TEk.split2 (fun x i h => isDctRef h x) t with t | t
  · exact .inl (t2o (g := fun x i h => if isDctRef h x then none else ixD x i h) t)
  · refine .inr ?_
    obtain ⟨Fr, ρ, s, h, r, sr, ok⟩ := t2o (g := fun x i h => if isDctRef h x then ixD x i h else none) t
    refine ⟨Fr, ρ, s, h, r, sr, ok.mono (fun p q v ρ1 H1 x1 r1 d1 => ?_) fun _ _ z => z⟩
    obtain ⟨Fr, ρ, s, h, r, sr, ok⟩ := q v ρ1 H1 x1 r1 d1
    refine ⟨Fr, ρ, s, h, r, sr, ok.mono (fun p q v ρ1 H1 x1 r1 d1 => ?_) fun _ _ z => z⟩
    obtain ⟨Fr, ρ, h, d, e, r, d1, d2, p, q, k⟩ := q v ρ1 H1 x1 r1 d1
    dsimp only at q
    split at q
    · rename_i nd
      obtain ⟨a, v, e1, e2, e3, e4⟩ := dget_of r d1 d2 nd q
      obtain ⟨p1, p2⟩ := p
      dsimp only at e3 e4
      subst e4
      exact ⟨a, v, e1, e2, k.same r e3⟩
    · cases q

/-! ### slices -/
def rSlD (K : PySem.W.Frag) : V → Option Int → Option Int → Hp → VK → Prop := fun x lo hi H Q => ∃ Fr ρ h d, HR K Fr ρ h H ∧ RD K Fr ρ H d x ∧ ∃ p, sliceD d lo hi h = some p ∧ Kont K Fr ρ H Q p
theorem rds_cut {K : PySem.W.Frag} {Fr ρ : List Addr} {H : Hp} {ds : List D} {vs : List V} (lo hi : Option Int) (r : RDs K Fr ρ H ds vs) : RDs K Fr ρ H (cut ds lo hi) (cutV vs lo hi) := by
  unfold cut cutV
  rw [r.length]
  exact (r.drop _).take _
theorem cut_all {α : Type} {xs : List α} {lo hi : Option Int} (h : HT.sIx xs.length 0 lo = 0 ∧ HT.sIx xs.length xs.length hi = xs.length) : cut xs lo hi = xs := by
  unfold cut
  rw [h.1, h.2]; simp
theorem sl_D : SlR X (rSlD X.K) := by
  refine SlR.imp (sl_tupA.or (sl_str.or (sl_list.or sl_tupF))) fun x lo hi H Q ⟨Fr, ρ, h, d, r, d1, p, q, k⟩ => ?_
  unfold sliceD at q
  split at q
  · rename_i ns
    cases q
    have d1' := d1
    unfold RD at d1'
    obtain ⟨a, rfl, k1⟩ := d1'
    refine .inr (.inr (.inr ⟨a, _, rfl, k1.sqT, fun z => ?_, fun _ p o hp ho => ?_⟩))
    · rw [List.length_map] at z
      rw [cut_all z] at k
      exact k.same r d1
    · have e : cutV (ns.map V.int) lo hi = (cut ns lo hi).map V.int := by
        unfold cutV cut
        rw [List.length_map, List.map_take, List.map_drop]
      rw [e]
      exact k.ktp r hp ho
  · rename_i ds
    cases q
    obtain ⟨a, vs, rfl, s1, q1⟩ := d1.sqT
    refine .inl ⟨a, vs, rfl, s1, fun z => ?_, fun _ p hp => k.tup r (rds_cut lo hi q1) hp⟩
    rw [← q1.length] at z
    rw [cut_all z] at k
    exact k.same r d1
  · split at q
    · rename_i hl
      cases q
      exact .inr (.inl ⟨_, rd_str.mp d1, lineOk_le hl, k.same r (rd_str.mpr rfl)⟩)
    · cases q
  · rename_i _ nt ns
    split at q
    · rename_i ds hd
      cases q
      have hq : ∃ a vs, x = .ref a ∧ SqL X.K H a vs ∧ RDs X.K Fr ρ H ds vs := by
        unfold sqlOf at hd
        split at hd
        · cases hd
          unfold RD at d1
          obtain ⟨a, e1, k1⟩ := d1
          refine ⟨a, _, e1, ?_, RDs.of_ints _⟩
          rcases k1 with ⟨k1, _⟩ | k1
          · exact .inl k1.1
          · exact .inr k1
        · obtain ⟨a, vs, e, s, q⟩ := r.lstOf d1 hd
          exact ⟨a, vs, e, .of s, q⟩
      obtain ⟨a, vs, rfl, s, q1⟩ := hq
      exact .inr (.inr (.inl ⟨a, vs, rfl, s, fun p hp => k _ ρ _ (ext_new hp) (r.new hp) (RD.newL r (rds_cut lo hi q1) hp)⟩))
    · cases q

/-! ### stores to a place -/
def rSetD (K : PySem.W.Frag) : TSet := fun o i v H Q => ∃ Fr ρ h x k d, HR K Fr ρ h H ∧ RD K Fr ρ H x o ∧ RD K Fr ρ H k i ∧ RD K Fr ρ H d v ∧ ∃ h', setD x k d h = some h' ∧ ∀ ρ' H', Ext ρ H ρ' H' → HR K Fr ρ' h' H' → Q H'
theorem PSet.imp {t t' : TSet} (h : PSet X t) (i : ∀ o k v H Q, t' o k v H Q → t o k v H Q) : PSet X t' := fun pins s σ H o k v ov iv u Q I r1 r2 r3 q => h pins s σ H o k v ov iv u Q I r1 r2 r3 (i _ _ _ _ _ q)
theorem PSet.or {t t' : TSet} (h : PSet X t) (h' : PSet X t') : PSet X (fun o k v H Q => t o k v H Q ∨ t' o k v H Q) := fun pins s σ H o k v ov iv u Q I r1 r2 r3 q => q.elim (fun q => h pins s σ H o k v ov iv u Q I r1 r2 r3 q) fun q => h' pins s σ H o k v ov iv u Q I r1 r2 r3 q
theorem set_dict (hu : X.A.units + 1 < cLine) : PSet X (fun o i v H Q => ∃ a H4, o = .ref a ∧ DPut H a i v H4 ∧ Q H4) := fun pins s σ H o i v ov iv u Q I r1 r2 r3 ⟨a, H4, e, g, q⟩ => by
  subst e
  cases r1
  exact d_setItem hu I g r2 r3 fun s' I' => ⟨H4, I', q⟩
theorem set_D (hu : X.A.units + 1 < cLine) : PSet X (rSetD X.K) := by
  refine PSet.imp (PSet.or set_list (set_dict hu)) fun o i v H Q ⟨Fr, ρ, h, x, k, d, r, d1, d2, d3, h', q, kk⟩ => ?_
  unfold setD at q
  split at q
  · rename_i n
    split at q
    · rename_i ds hn
      split at q
      · split at q
        · rename_i j hj
          cases q
          obtain ⟨a, vs, rfl, ha, e3, rs⟩ := r.lst d1 hn
          refine .inl ⟨a, vs, _, j, rfl, rd_int.mp d2, e3, by rw [← rs.length]; exact hj, ?_⟩
          exact kk ρ _ (ext_set r ha) (r.set ha ⟨_, upd_same, RDs.mono (ext_set r ha) _ _ (RDs.set j d3 rs)⟩)
        · cases q
      · cases q
    · rename_i kvs hn
      split at q
      · rename_i kk' hk
        split at q
        · rename_i hl
          cases q
          obtain ⟨a, vs, rfl, ha, e3, kr⟩ := r.dct d1 hn
          rw [kv_of_key hk d2]
          refine .inr ⟨a, _, rfl, .k e3 (by rw [← kr.length, sizeLine_eq]; exact hl), ?_⟩
          exact kk ρ _ (ext_set r ha) (r.set ha ⟨_, upd_same, (kr.put d3).mono (ext_set r ha)⟩)
        · cases q
      · cases q
    · rename_i kvs hn
      split at q
      · rename_i ks
        split at q
        · rename_i kk' hk
          split at q
          · rename_i hl
            cases q
            unfold RD at d1
            obtain ⟨a, rfl, ha⟩ := d1
            obtain ⟨b', hb, vs, e3, kr⟩ := r.at' n _ hn
            rw [ha] at hb; cases hb
            obtain ⟨c, xs, rfl, e4, qs⟩ := d2.tupl
            rw [kvs_of_keys hk qs] at e4
            refine .inr ⟨a, _, rfl, .t e3 e4 (by rw [← kr.length, sizeLine_eq]; exact hl), ?_⟩
            exact kk ρ _ (ext_set r ha) (r.set ha ⟨_, upd_same, (kr.put d3).mono (ext_set r ha)⟩)
          · cases q
        · cases q
      · cases q
    · cases q
  · cases q

/-! ### built-ins -/
section
variable {K : PySem.W.Frag} {Fr ρ : List Addr} {H : Hp} {h : Hq}
theorem rds1 {d : D} {xs : List V} (r : RDs K Fr ρ H [d] xs) : ∃ v, xs = [v] ∧ RD K Fr ρ H d v := by
  unfold RDs at r
  obtain ⟨v, t, rfl, a, b⟩ := r
  unfold RDs at b
  subst b
  exact ⟨v, rfl, a⟩
theorem rds2 {d e : D} {xs : List V} (r : RDs K Fr ρ H [d, e] xs) : ∃ v w, xs = [v, w] ∧ RD K Fr ρ H d v ∧ RD K Fr ρ H e w := by
  unfold RDs at r
  obtain ⟨v, t, rfl, a, b⟩ := r
  obtain ⟨w, rfl, c⟩ := rds1 b
  exact ⟨v, w, rfl, a, c⟩
theorem HR.ints (r : HR K Fr ρ h H) {d : D} {ns : List Int} {v : V} (k : RD K Fr ρ H d v) (e : intsL h d = some ns) : ∃ a, v = .ref a ∧ SqL K H a (ns.map V.int) := by
  obtain ⟨ds, e1, e2⟩ := Option.bind_eq_some_iff.mp e
  obtain ⟨a, vs, rfl, s, q⟩ := r.lstOf k e1
  rw [RDs.ints e2 q] at s
  exact ⟨a, rfl, .of s⟩
end
theorem call_len_d : CallR X (.builtin "len") (fun xs H Q => ∃ a kvs, xs = [.ref a] ∧ H a = some (.dK kvs) ∧ Q (.int kvs.length) H) := by
  intro pins s σ H xs us Q I r h
  obtain ⟨a, kvs, rfl, e, q⟩ := h
  obtain ⟨u, rfl, r1⟩ := vals1 r
  cases r1
  exact d_len I (.inl e) fun t s' I' => ⟨.int _, H, I', ⟨t, rfl⟩, q⟩
/-- a built-in of one argument, by values -/
theorem cb1 {v : Value} {r : List V → Hp → VK → Prop} {g : D → Hq → Option (D × Hq)} (c : CallR X v r)
    (i : ∀ x H Q Fr ρ h d p, HR X.K Fr ρ h H → RD X.K Fr ρ H d x → g d h = some p → Kont X.K Fr ρ H Q p → r [x] H Q) : CallR X v (rDs X.K (un1 g)) :=
  CallR.imp c fun xs H Q ⟨Fr, ρ, h, ds, r, d1, p, q, k⟩ => by
    unfold un1 at q
    split at q
    · obtain ⟨v, e, d2⟩ := rds1 d1
      subst e
      exact i v H Q Fr ρ h _ p r d2 q k
    · cases q
theorem cb2 {v : Value} {r : List V → Hp → VK → Prop} {g : D → D → Hq → Option (D × Hq)} (c : CallR X v r)
    (i : ∀ x y H Q Fr ρ h d e p, HR X.K Fr ρ h H → RD X.K Fr ρ H d x → RD X.K Fr ρ H e y → g d e h = some p → Kont X.K Fr ρ H Q p → r [x, y] H Q) : CallR X v (rDs X.K (un2 g)) :=
  CallR.imp c fun xs H Q ⟨Fr, ρ, h, ds, r, d1, p, q, k⟩ => by
    unfold un2 at q
    split at q
    · obtain ⟨v, w, e, d2, d3⟩ := rds2 d1
      subst e
      exact i v w H Q Fr ρ h _ _ p r d2 d3 q k
    · cases q
theorem cb_len : CallR X (.builtin "len") (rDs X.K (un1 lenD)) := by
  refine cb1 (call_len.or call_len_d) fun x H Q Fr ρ h d p r d1 q k => ?_
  unfold lenD at q
  split at q
  · split at q
    · rename_i hl
      cases q
      rw [rd_str.mp d1]
      exact .inl ⟨_, _, rfl, ⟨lineOk_le hl, rfl⟩, k.same r (rd_int.mpr rfl)⟩
    · cases q
  · split at q
    · rename_i n _ ds hn
      cases q
      obtain ⟨a, vs, rfl, ha, e3, rs⟩ := r.lst d1 hn
      exact .inl ⟨_, _, rfl, .inl ⟨vs, .of e3, rfl⟩, by rw [← rs.length]; exact k.same r (rd_int.mpr rfl)⟩
    · rename_i n _ kvs hn
      cases q
      obtain ⟨a, vs, rfl, ha, e3, kr⟩ := r.dct d1 hn
      exact .inr ⟨a, vs, rfl, e3, by rw [← kr.length]; exact k.same r (rd_int.mpr rfl)⟩
    · cases q
  · split at q
    · rename_i ds hd
      cases q
      obtain ⟨a, vs, rfl, e3, rs⟩ := r.items d1 hd
      refine .inl ⟨_, vs.length, rfl, ?_, by rw [← rs.length]; exact k.same r (rd_int.mpr rfl)⟩
      rcases e3 with e3 | e3
      · exact .inl ⟨vs, e3, rfl⟩
      · exact .inr ⟨vs, e3, rfl⟩
    · cases q
theorem cb_int : CallR X (.type "int") (rDs X.K (un1 toIntD)) := by
  refine cb1 (call_int1.or call_int_str) fun x H Q Fr ρ h d p r d1 q k => ?_
  unfold toIntD at q
  split at q
  · cases q; rw [rd_int.mp d1]; exact .inl (.inl ⟨_, rfl, k.same r (rd_int.mpr rfl)⟩)
  · cases q; rw [rd_bl.mp d1]; exact .inl (.inr ⟨_, rfl, k.same r (rd_int.mpr rfl)⟩)
  · split at q
    · rename_i hl
      split at q
      · rename_i n hn
        cases q; rw [rd_str.mp d1]; exact .inr ⟨_, _, rfl, hn, hl, k.same r (rd_int.mpr rfl)⟩
      · cases q
    · cases q
  · cases q
theorem cb_i2 {v : Value} {g : Int → Int → Int} (c : CallR X v fun xs H Q => ∃ i j, xs = [.int i, .int j] ∧ Q (.int (g i j)) H) : CallR X v (rDs X.K (un2 (int2 (fun _ _ => true) g))) := by
  refine cb2 c fun x y H Q Fr ρ h d e p r d1 d2 q k => ?_
  unfold int2 at q
  split at q
  · rw [if_pos rfl] at q
    cases q; rw [rd_int.mp d1, rd_int.mp d2]; exact ⟨_, _, rfl, k.same r (rd_int.mpr rfl)⟩
  · cases q
theorem foldl_max_mem : ∀ (l : List Int) (a : Int), l.foldl max a ∈ a :: l ∧ ∀ y ∈ a :: l, y ≤ l.foldl max a
  | [], a => by simp
  | b :: l, a => by
    obtain ⟨h1, h2⟩ := foldl_max_mem l (max a b)
    rw [List.foldl_cons]
    refine ⟨?_, fun y hy => ?_⟩
    · rcases List.mem_cons.mp h1 with e | e
      · rw [e]
        rcases Int.le_total a b with z | z
        · rw [Int.max_eq_right z]; simp
        · rw [Int.max_eq_left z]; simp
      · exact List.mem_cons_of_mem _ (List.mem_cons_of_mem _ e)
    · have h3 := h2 (max a b) List.mem_cons_self
      rcases List.mem_cons.mp hy with rfl | hy
      · omega
      · rcases List.mem_cons.mp hy with rfl | hy
        · omega
        · exact h2 y (List.mem_cons_of_mem _ hy)
theorem foldl_min_mem : ∀ (l : List Int) (a : Int), l.foldl min a ∈ a :: l ∧ ∀ y ∈ a :: l, l.foldl min a ≤ y
  | [], a => by simp
  | b :: l, a => by
    obtain ⟨h1, h2⟩ := foldl_min_mem l (min a b)
    rw [List.foldl_cons]
    refine ⟨?_, fun y hy => ?_⟩
    · rcases List.mem_cons.mp h1 with e | e
      · rw [e]
        rcases Int.le_total a b with z | z
        · rw [Int.min_eq_left z]; simp
        · rw [Int.min_eq_right z]; simp
      · exact List.mem_cons_of_mem _ (List.mem_cons_of_mem _ e)
    · have h3 := h2 (min a b) List.mem_cons_self
      rcases List.mem_cons.mp hy with rfl | hy
      · omega
      · rcases List.mem_cons.mp hy with rfl | hy
        · omega
        · exact h2 y (List.mem_cons_of_mem _ hy)
theorem ints_reads {h : Heap} : ∀ {its : List Value} {ns : List Int}, IntsAre its ns → ReadsAll h its (ns.map .int) []
  | _, _, .nil => .nil
  | _, _, .cons n t r => ReadsAll.cons (as := []) (Reads.int n t) (ints_reads r)
theorem ints_depth (ns : List Int) : PyData.depthAll (ns.map .int) = 0 := by
  induction ns with
  | nil => rfl
  | cons n ns ih => rw [List.map_cons, PyData.depthAll, PyData.depth, ih]; rfl
theorem ints_alike (ns : List Int) : PySem.W.AlikeAll (ns.map .int) := by
  constructor
  · intro x hx y hy
    obtain ⟨a, _, rfl⟩ := List.mem_map.mp hx
    obtain ⟨b, _, rfl⟩ := List.mem_map.mp hy
    rfl
  · intro x hx
    obtain ⟨a, _, rfl⟩ := List.mem_map.mp hx
    intro z; cases z
def rMaxT (K : PySem.W.Frag) (f : Int → Int → Int) : List V → Hp → VK → Prop := fun vs H Q => ∃ (a : Addr) (n : Int) (ns : List Int), vs = [V.ref a] ∧ SqT K H a ((n :: ns).map V.int) ∧ Q (.int (ns.foldl f n)) H
theorem cr_maxT (hc : X.calm = true) (hu : X.A.units + 64 < cLine) : CallR X (.builtin "max") (rMaxT X.K max) := by
  intro pins s σ H vs us Q I r ⟨a, n, ns, e0, hs, q⟩
  subst e0
  obtain ⟨its, rv, p, _⟩ := I.tuple hs
  rw [Vals.ref1 r]
  have p1 : s.heap.IsTuple a its.toArray := p
  refine PySem.W.max_tuple_data (x := .int n) (xs := ns.map .int) (I.ok.hd hc) p1 (ints_reads (ns := n :: ns) rv.ints) (ints_alike (n :: ns)) (by rw [show (PyData.int n :: ns.map PyData.int) = (n :: ns).map PyData.int from rfl, ints_depth]; omega) fun i v h' tk bs hv hr kp => ?_
  rw [PySem.W.maxD_ints] at hr
  cases hr
  exact ⟨.int _, H, I.kept kp, ⟨_, rfl⟩, q⟩
theorem cr_minT (hc : X.calm = true) (hu : X.A.units + 64 < cLine) : CallR X (.builtin "min") (rMaxT X.K min) := by
  intro pins s σ H vs us Q I r ⟨a, n, ns, e0, hs, q⟩
  subst e0
  obtain ⟨its, rv, p, _⟩ := I.tuple hs
  rw [Vals.ref1 r]
  have p1 : s.heap.IsTuple a its.toArray := p
  refine PySem.W.min_tuple_data (x := .int n) (xs := ns.map .int) (I.ok.hd hc) p1 (ints_reads (ns := n :: ns) rv.ints) (ints_alike (n :: ns)) (by rw [show (PyData.int n :: ns.map PyData.int) = (n :: ns).map PyData.int from rfl, ints_depth]; omega) fun i v h' tk bs hv hr kp => ?_
  rw [PySem.W.minD_ints] at hr
  cases hr
  exact ⟨.int _, H, I.kept kp, ⟨_, rfl⟩, q⟩
theorem lexLt_lt : ∀ xs ys : List Int, HT.lexLt xs ys = decide (xs < ys)
  | [], [] => by simp [HT.lexLt]
  | [], _ :: _ => by simp [HT.lexLt]
  | _ :: _, [] => by simp [HT.lexLt]
  | x :: xs, y :: ys => by
    rw [HT.lexLt_cons]
    by_cases h : x = y
    · rw [if_pos h, lexLt_lt xs ys]
      simp [h, List.cons_lt_cons_iff]
    · rw [if_neg h]
      simp [h, List.cons_lt_cons_iff]
theorem minD_tups (a : List Int) : ∀ l : List (List Int), PySem.W.minD (.tuple (a.map .int)) (l.map fun ns => .tuple (ns.map .int)) = .tuple ((l.foldl lessT a).map .int) := by
  intro l
  induction l generalizing a with
  | nil => rfl
  | cons b l ih =>
    rw [List.map_cons, List.foldl_cons, ← ih]
    unfold PySem.W.minD
    rw [List.foldl_cons]
    congr 1
    have e : PySem.W.dataLt (.tuple (b.map .int)) (.tuple (a.map .int)) = HT.lexLt b a := by
      rw [PySem.W.dataLt_tuple]
      show PySem.W.rowLt (b.map .int) (a.map .int) = _
      rw [PySem.W.dataLt_ints, lexLt_lt]
    rw [e]
    unfold lessT
    cases HT.lexLt b a <;> rfl
/-- values that are tuples of ints -/
def TupsAt (K : PySem.W.Frag) (H : Hp) : List V → List (List Int) → Prop
  | [], [] => True
  | v :: vs, n :: ns => (∃ t, v = V.ref t ∧ SqT K H t (n.map V.int)) ∧ TupsAt K H vs ns
  | _, _ => False
theorem TupsAt.get {K : PySem.W.Frag} {H : Hp} : ∀ {vs : List V} {ns : List (List Int)} {i : Nat} {v : V}, TupsAt K H vs ns → vs[i]? = some v → ∃ t n, v = V.ref t ∧ ns[i]? = some n ∧ SqT K H t (n.map V.int)
  | v :: vs, n :: ns, 0, w, h, e => by
    cases e
    obtain ⟨t, e1, e2⟩ := h.1
    exact ⟨t, n, e1, rfl, e2⟩
  | v :: vs, n :: ns, i + 1, w, h, e => by simpa using TupsAt.get h.2 (by simpa using e)
theorem tups_reads {pins : List (Addr × Obj)} {σ : L2.St} {H : Hp} {s : Shared} (I : Inv X pins σ H s) : ∀ {vs : List V} {ns : List (List Int)} {us : List Value}, TupsAt X.K H vs ns → Vals vs us → ReadsAll s.heap us (ns.map fun n => .tuple (n.map .int)) []
  | [], [], _, _, .nil => .nil
  | v :: vs, n :: ns, _, h, .cons rv r => by
    obtain ⟨⟨t, e, sq⟩, h2⟩ := h
    subst e
    cases rv
    obtain ⟨its, rt, ⟨o, e1, e2, k, e3⟩, _⟩ := I.tuple sq
    exact ReadsAll.cons (as := []) (bs := []) (Reads.tuple e1 e2 e3 (by simpa using ints_reads rt.ints)) (tups_reads I h2 r)
theorem tups_alike (nss : List (List Int)) : PySem.W.AlikeAll (nss.map fun n => .tuple (n.map .int)) := by
  constructor
  · intro x hx y hy
    obtain ⟨a, _, rfl⟩ := List.mem_map.mp hx
    obtain ⟨b, _, rfl⟩ := List.mem_map.mp hy
    exact PySem.W.alike_ints a b
  · intro x hx
    obtain ⟨a, _, rfl⟩ := List.mem_map.mp hx
    intro z; cases z
theorem tups_depth : ∀ nss : List (List Int), PyData.depthAll (nss.map fun n => .tuple (n.map .int)) ≤ 1
  | [] => Nat.zero_le _
  | n :: ns => by
    rw [List.map_cons, PyData.depthAll, PyData.depth, ints_depth]
    exact Nat.max_le.mpr ⟨Nat.le_refl _, tups_depth ns⟩
theorem reads_ints {h : Heap} : ∀ {its : List Value} {ns ms : List Int} {as : List Addr}, IntsAre its ns → ReadsAll h its (ms.map .int) as → ms = ns
  | _, _, [], _, .nil, _ => rfl
  | _, _, m :: ms, _, .nil, r => by cases r
  | _, _, [], _, .cons n t q, r => by cases r
  | _, _, m :: ms, _, .cons n t q, r => by
    rw [List.map_cons] at r
    cases r with
    | cons r1 r2 =>
      cases r1
      rw [reads_ints q r2]
def rMinTs (K : PySem.W.Frag) : List V → Hp → VK → Prop := fun vs H Q => ∃ (a : Addr) (xs : List V) (n : List Int) (ns : List (List Int)), vs = [V.ref a] ∧ SqL K H a xs ∧ TupsAt K H xs (n :: ns) ∧
  ∀ (i : Nat) (t : Addr), xs[i]? = some (V.ref t) → (n :: ns)[i]? = some (ns.foldl lessT n) → Q (.ref t) H
theorem cr_minTs (hc : X.calm = true) (hu : X.A.units + 64 < cLine) : CallR X (.builtin "min") (rMinTs X.K) := by
  intro pins s σ H vs us Q I r ⟨a, xs, n, ns, e0, hs, ht, q⟩
  subst e0
  obtain ⟨its, rv, hl, _⟩ := I.list hs
  rw [Vals.ref1 r]
  have hd := tups_depth (n :: ns)
  refine PySem.W.min_list_data (x := PyData.tuple (n.map PyData.int)) (xs := List.map (fun n : List Int => PyData.tuple (List.map PyData.int n)) ns) (as := []) (vs := its.toArray) (I.ok.hd hc) hl.isList (show ReadsAll s.heap its.toArray.toList ((n :: ns).map fun n => .tuple (n.map .int)) [] by rw [List.toList_toArray]; exact tups_reads I ht rv) (tups_alike (n :: ns)) (by
    rw [show (PyData.tuple (n.map .int) :: ns.map fun n => PyData.tuple (n.map .int)) = (n :: ns).map fun n => .tuple (n.map .int) from rfl]; omega) fun i v h' tk bs hv hr kp => ?_
  rw [minD_tups] at hr
  have hi : i < xs.length := by
    rw [rv.length]
    have := (Array.getElem?_eq_some_iff.mp hv).1
    simpa using this
  obtain ⟨t, m, e1, e2, e3⟩ := ht.get (List.getElem?_eq_getElem hi)
  have e4 : xs[i]? = some (V.ref t) := by rw [List.getElem?_eq_getElem hi, e1]
  obtain ⟨u, e5, ru⟩ := rv.get e4
  have e6 : u = v := by
    have : its.toArray[i]? = some u := by simpa using e5
    rw [hv] at this
    exact (Option.some.inj this).symm
  subst e6
  cases ru
  refine ⟨.ref t, H, I.kept kp, rfl, q i t e4 ?_⟩
  rw [e2]
  obtain ⟨its2, rt, ⟨o, f1, f2, k, f3⟩, _⟩ := I.tuple e3
  cases hr with
  | tuple g1 g2 g3 g4 =>
    rw [kp _ _ f1] at g1
    cases g1
    rw [f3] at g3
    cases g3
    have z := reads_ints rt.ints (ms := ns.foldl lessT n) (by simpa using g4)
    rw [z]
theorem maxD_tups (a : List Int) : ∀ l : List (List Int), PySem.W.maxD (.tuple (a.map .int)) (l.map fun ns => .tuple (ns.map .int)) = .tuple ((l.foldl moreT a).map .int) := by
  intro l
  induction l generalizing a with
  | nil => rfl
  | cons b l ih =>
    rw [List.map_cons, List.foldl_cons, ← ih]
    unfold PySem.W.maxD
    rw [List.foldl_cons]
    congr 1
    have e : PySem.W.dataLt (.tuple (a.map .int)) (.tuple (b.map .int)) = HT.lexLt a b := by
      rw [PySem.W.dataLt_tuple]
      show PySem.W.rowLt (a.map .int) (b.map .int) = _
      rw [PySem.W.dataLt_ints, lexLt_lt]
    rw [e]
    unfold moreT
    cases HT.lexLt a b <;> rfl
def rMaxTs (K : PySem.W.Frag) : List V → Hp → VK → Prop := fun vs H Q => ∃ (a : Addr) (xs : List V) (n : List Int) (ns : List (List Int)), vs = [V.ref a] ∧ SqL K H a xs ∧ TupsAt K H xs (n :: ns) ∧
  ∀ (i : Nat) (t : Addr), xs[i]? = some (V.ref t) → (n :: ns)[i]? = some (ns.foldl moreT n) → Q (.ref t) H
theorem cr_maxTs (hc : X.calm = true) (hu : X.A.units + 64 < cLine) : CallR X (.builtin "max") (rMaxTs X.K) := by
  intro pins s σ H vs us Q I r ⟨a, xs, n, ns, e0, hs, ht, q⟩
  subst e0
  obtain ⟨its, rv, hl, _⟩ := I.list hs
  rw [Vals.ref1 r]
  have hd := tups_depth (n :: ns)
  refine PySem.W.max_list_data (x := PyData.tuple (n.map PyData.int)) (xs := List.map (fun n : List Int => PyData.tuple (List.map PyData.int n)) ns) (as := []) (vs := its.toArray) (I.ok.hd hc) hl.isList (show ReadsAll s.heap its.toArray.toList ((n :: ns).map fun n => .tuple (n.map .int)) [] by rw [List.toList_toArray]; exact tups_reads I ht rv) (tups_alike (n :: ns)) (by
    rw [show (PyData.tuple (n.map .int) :: ns.map fun n => PyData.tuple (n.map .int)) = (n :: ns).map fun n => .tuple (n.map .int) from rfl]; omega) fun i v h' tk bs hv hr kp => ?_
  rw [maxD_tups] at hr
  have hi : i < xs.length := by
    rw [rv.length]
    have := (Array.getElem?_eq_some_iff.mp hv).1
    simpa using this
  obtain ⟨t, m, e1, e2, e3⟩ := ht.get (List.getElem?_eq_getElem hi)
  have e4 : xs[i]? = some (V.ref t) := by rw [List.getElem?_eq_getElem hi, e1]
  obtain ⟨u, e5, ru⟩ := rv.get e4
  have e6 : u = v := by
    have : its.toArray[i]? = some u := by simpa using e5
    rw [hv] at this
    exact (Option.some.inj this).symm
  subst e6
  cases ru
  refine ⟨.ref t, H, I.kept kp, rfl, q i t e4 ?_⟩
  rw [e2]
  obtain ⟨its2, rt, ⟨o, f1, f2, k, f3⟩, _⟩ := I.tuple e3
  cases hr with
  | tuple g1 g2 g3 g4 =>
    rw [kp _ _ f1] at g1
    cases g1
    rw [f3] at g3
    cases g3
    have z := reads_ints rt.ints (ms := ns.foldl moreT n) (by simpa using g4)
    rw [z]
theorem rds_tups {K : PySem.W.Frag} {Fr ρ : List Addr} {H : Hp} : ∀ {ds : List D} {vs : List V} {nss : List (List Int)}, tupsI ds = some nss → RDs K Fr ρ H ds vs → TupsAt K H vs nss
  | [], vs, nss, e, r => by
    cases e
    unfold RDs at r
    subst r
    trivial
  | d :: ds, vs, nss, e, r => by
    unfold RDs at r
    obtain ⟨v, w, rfl, k, r⟩ := r
    unfold tupsI at e
    split at e
    · rename_i h; cases h
    · rename_i d' es h
      cases h
      split at e
      · rename_i ns nss' e1 e2
        cases e
        obtain ⟨a, xs, rfl, s1, z1⟩ := k.sqT
        rw [RDs.ints e1 z1] at s1
        exact ⟨⟨a, rfl, s1⟩, rds_tups e2 r⟩
      · cases e
    · cases e
theorem ints_of : ∀ {ds : List D} {ns : List Int}, intsOf ds = some ns → ds = ns.map D.int
  | [], ns, e => by cases e; rfl
  | d :: ds, ns, e => by
    unfold intsOf at e
    split at e
    · rename_i h; cases h
    · rename_i i es h
      cases h
      obtain ⟨ms, e1, e2⟩ := Option.map_eq_some_iff.mp e
      subst e2
      rw [List.map_cons, ints_of e1]
    · cases e
theorem tupsI_at : ∀ {ds : List D} {nss : List (List Int)} {i : Nat} {d : D} {n : List Int}, tupsI ds = some nss → ds[i]? = some d → nss[i]? = some n → d = .tup (n.map D.int)
  | [], nss, i, d, n, e, e1, e2 => by simp at e1
  | d0 :: ds, nss, i, d, n, e, e1, e2 => by
    unfold tupsI at e
    split at e
    · rename_i h; cases h
    · rename_i d' es h
      cases h
      split at e
      · rename_i ns nss' f1 f2
        cases e
        cases i with
        | zero =>
          simp only [List.getElem?_cons_zero, Option.some.injEq] at e1 e2
          subst e1 e2
          rw [ints_of f1]
        | succ i => exact tupsI_at f2 (by simpa using e1) (by simpa using e2)
      · cases e
    · cases e
theorem RDs.get2 {K : PySem.W.Frag} {Fr ρ : List Addr} {H : Hp} : ∀ {ds : List D} {vs : List V} {i : Nat} {v : V}, RDs K Fr ρ H ds vs → vs[i]? = some v → ∃ d, ds[i]? = some d ∧ RD K Fr ρ H d v
  | [], vs, i, v, r, e => by
    unfold RDs at r
    subst r
    simp at e
  | d :: ds, vs, i, v, r, e => by
    unfold RDs at r
    obtain ⟨w, ws, rfl, k, r⟩ := r
    cases i with
    | zero => cases e; exact ⟨d, rfl, k⟩
    | succ i => simpa using RDs.get2 r (by simpa using e)
theorem cb_min (hc : X.calm = true) (hu : X.A.units + 64 < cLine) : CallR X (.builtin "min") (rDs X.K (un1 minD)) := by
  refine cb1 (CallR.or (CallR.or (cr_min hc) (cr_minT hc hu)) (cr_minTs hc hu)) fun x H Q Fr ρ h d p r d1 q k => ?_
  unfold minD at q
  split at q
  · split at q
    · rename_i ds ns hn
      obtain ⟨q1, q2⟩ := ofO_some q
      obtain ⟨m, e1, e2⟩ := Option.map_eq_some_iff.mp q1
      obtain ⟨p1, p2⟩ := p
      dsimp only at q2 e2
      subst q2 e2
      cases ns with
      | nil => cases e1
      | cons b l =>
        cases e1
        obtain ⟨a, xs, rfl, s1, z1⟩ := d1.sqT
        rw [RDs.ints hn z1] at s1
        exact .inl (.inr ⟨a, b, l, rfl, s1, k.same r (rd_int.mpr rfl)⟩)
    · cases q
  · split at q
    · rename_i ns hn
      obtain ⟨q1, q2⟩ := ofO_some q
      obtain ⟨a, rfl, s⟩ := r.ints d1 hn
      obtain ⟨m, e1, e2⟩ := Option.map_eq_some_iff.mp q1
      obtain ⟨p1, p2⟩ := p
      dsimp only at q2 e2
      subst q2 e2
      cases ns with
      | nil => cases e1
      | cons b l =>
        cases e1
        refine .inl (.inl ⟨a, b :: l, rfl, s, by simp, fun m hm hy => ?_⟩)
        obtain ⟨h1, h2⟩ := foldl_min_mem l b
        have e : m = l.foldl min b := Int.le_antisymm (hy _ h1) (h2 m hm)
        rw [e]
        exact k.same r (rd_int.mpr rfl)
    · split at q
      · rename_i nss hn
        obtain ⟨q1, q2⟩ := ofO_some q
        obtain ⟨m, e1, e2⟩ := Option.map_eq_some_iff.mp q1
        obtain ⟨p1, p2⟩ := p
        dsimp only at q2 e2
        subst q2 e2
        obtain ⟨ds, e3, e4⟩ := Option.bind_eq_some_iff.mp hn
        obtain ⟨a, vs, rfl, s, rs⟩ := r.lstOf d1 e3
        cases nss with
        | nil => cases e1
        | cons b l =>
          cases e1
          refine .inr ⟨a, vs, b, l, rfl, .of s, rds_tups e4 rs, fun i t ht hi => ?_⟩
          refine k.same r ?_
          obtain ⟨d, hd, kd⟩ := rs.get2 ht
          rw [tupsI_at e4 hd hi] at kd
          exact kd
      · cases q
theorem cb_max (hc : X.calm = true) (hu : X.A.units + 64 < cLine) : CallR X (.builtin "max") (rDs X.K (un1 maxD)) := by
  refine cb1 (CallR.or (CallR.or (cr_max hc) (cr_maxT hc hu)) (cr_maxTs hc hu)) fun x H Q Fr ρ h d p r d1 q k => ?_
  unfold maxD at q
  split at q
  · split at q
    · rename_i ds ns hn
      obtain ⟨q1, q2⟩ := ofO_some q
      obtain ⟨m, e1, e2⟩ := Option.map_eq_some_iff.mp q1
      obtain ⟨p1, p2⟩ := p
      dsimp only at q2 e2
      subst q2 e2
      cases ns with
      | nil => cases e1
      | cons b l =>
        cases e1
        obtain ⟨a, xs, rfl, s1, z1⟩ := d1.sqT
        rw [RDs.ints hn z1] at s1
        exact .inl (.inr ⟨a, b, l, rfl, s1, k.same r (rd_int.mpr rfl)⟩)
    · cases q
  · split at q
    · rename_i ns hn
      obtain ⟨q1, q2⟩ := ofO_some q
      obtain ⟨a, rfl, s⟩ := r.ints d1 hn
      obtain ⟨m, e1, e2⟩ := Option.map_eq_some_iff.mp q1
      obtain ⟨p1, p2⟩ := p
      dsimp only at q2 e2
      subst q2 e2
      cases ns with
      | nil => cases e1
      | cons b l =>
        cases e1
        refine .inl (.inl ⟨a, b :: l, rfl, s, by simp, fun m hm hy => ?_⟩)
        obtain ⟨h1, h2⟩ := foldl_max_mem l b
        have e : m = l.foldl max b := Int.le_antisymm (h2 m hm) (hy _ h1)
        rw [e]
        exact k.same r (rd_int.mpr rfl)
    · split at q
      · rename_i nss hn
        obtain ⟨q1, q2⟩ := ofO_some q
        obtain ⟨m, e1, e2⟩ := Option.map_eq_some_iff.mp q1
        obtain ⟨p1, p2⟩ := p
        dsimp only at q2 e2
        subst q2 e2
        obtain ⟨ds, e3, e4⟩ := Option.bind_eq_some_iff.mp hn
        obtain ⟨a, vs, rfl, s, rs⟩ := r.lstOf d1 e3
        cases nss with
        | nil => cases e1
        | cons b l =>
          cases e1
          refine .inr ⟨a, vs, b, l, rfl, .of s, rds_tups e4 rs, fun i t ht hi => ?_⟩
          refine k.same r ?_
          obtain ⟨d, hd, kd⟩ := rs.get2 ht
          rw [tupsI_at e4 hd hi] at kd
          exact kd
      · cases q
def rSumT (K : PySem.W.Frag) : List V → Hp → VK → Prop := fun vs H Q => ∃ (a : Addr) (ns : List Int), vs = [V.ref a] ∧ SqT K H a (ns.map V.int) ∧ Q (.int ns.sum) H
theorem cr_sumT (hc : X.calm = true) : CallR X (.builtin "sum") (rSumT X.K) := by
  intro pins s σ H vs us Q I r ⟨a, ns, e0, hs, q⟩
  subst e0
  obtain ⟨its, rv, p, _⟩ := I.tuple hs
  rw [Vals.ref1 r]
  have p1 : s.heap.IsTuple a its.toArray := p
  obtain ⟨xs, ex⟩ := rv.ints.allInts.items
  have nm : numsOf (intItems xs).toList = ns := by rw [← ex]; exact rv.ints.numsOf
  rw [nums_intItems] at nm
  rw [ex] at p1
  refine PySem.W.ktm_sumG (I.ok.hd hc) p1 fun h' tk t' kp => ⟨.int _, H, I.kept kp, ⟨t', ?_⟩, q⟩
  rw [preSum_eq, List.take_of_length_le (by simp), nm]
theorem cb_sum (hc : X.calm = true) : CallR X (.builtin "sum") (rDs X.K (un1 sumD)) := by
  refine cb1 (CallR.or (cr_sum hc) (cr_sumT hc)) fun x H Q Fr ρ h d p r d1 q k => ?_
  unfold sumD at q
  split at q
  · split at q
    · rename_i ds ns hn
      cases q
      obtain ⟨a, xs, rfl, s1, q1⟩ := d1.sqT
      rw [RDs.ints hn q1] at s1
      exact .inr ⟨a, ns, rfl, s1, k.same r (rd_int.mpr rfl)⟩
    · cases q
  · split at q
    · rename_i ns hn
      cases q
      obtain ⟨a, rfl, s⟩ := r.ints d1 hn
      exact .inl ⟨a, ns, rfl, s, k.same r (rd_int.mpr rfl)⟩
    · cases q
theorem HR.sql {K : PySem.W.Frag} {Fr ρ : List Addr} {H : Hp} {h : Hq} (r : HR K Fr ρ h H) {d : D} {ds : List D} {v : V} (k : RD K Fr ρ H d v) (e : sqlOf h d = some ds) : ∃ a vs, v = .ref a ∧ SqL K H a vs ∧ RDs K Fr ρ H ds vs := by
  unfold sqlOf at e
  split at e
  · cases e
    unfold RD at k
    obtain ⟨a, e1, k1⟩ := k
    refine ⟨a, _, e1, ?_, RDs.of_ints _⟩
    rcases k1 with ⟨k1, _⟩ | k1
    · exact .inl k1.1
    · exact .inr k1
  · obtain ⟨a, vs, e, s, q⟩ := r.lstOf k e
    exact ⟨a, vs, e, .of s, q⟩
theorem cb_tuple : CallR X (.type "tuple") (rDs X.K (un1 tupleD)) := by
  refine cb1 call_tuple_of fun x H Q Fr ρ h d p r d1 q k => ?_
  unfold tupleD at q
  split at q
  · cases q
    obtain ⟨a, vs, rfl, s, q⟩ := d1.sqT
    exact ⟨a, vs, rfl, .inr ⟨s, k.same r d1⟩⟩
  · cases q
    have d1' := d1
    unfold RD at d1'
    obtain ⟨a, rfl, k1⟩ := d1'
    exact ⟨a, _, rfl, .inr ⟨k1.sqT, k.same r d1⟩⟩
  · split at q
    · rename_i ds hd
      cases q
      obtain ⟨a, vs, rfl, s, q⟩ := r.sql d1 hd
      exact ⟨a, vs, rfl, .inl ⟨s, fun l hl => k.tup r q hl⟩⟩
    · cases q
theorem cb_list {live : Bool} : CallR X (.type "list") (rDs X.K (un1 (listD live))) := by
  refine cb1 call_list_of fun x H Q Fr ρ h d p r d1 q k => ?_
  unfold listD at q
  split at q
  · rename_i ds hd
    obtain ⟨a, vs, rfl, s, rs⟩ := r.items d1 hd
    exact ⟨a, vs, rfl, s, fun l hl => k.lst q r rs hl⟩
  · cases q
/-- repr of data -/
theorem call_reprP (hg : X.A.guards = some []) (hu : X.A.units + 128 < cLine) : CallR X (.builtin "repr") (fun xs H Q => ∃ x p, xs = [x] ∧ Dp X.K H x p ∧ showOk p = true ∧ Q (.str p.shown) H) := by
  intro pins s σ H xs us Q I r h
  obtain ⟨x, p, rfl, hd, hs, q⟩ := h
  obtain ⟨u, rfl, r1⟩ := vals1 r
  unfold showOk at hs
  simp only [Bool.and_eq_true, Bool.not_eq_true', decide_eq_true_eq] at hs
  obtain ⟨⟨⟨h1, h2⟩, h3⟩, h4⟩ := hs
  obtain ⟨as, rd⟩ := Dp.reads I p x u hd r1
  have hz := lineOk_le h4
  have fin : ∀ h' t, (∀ b o, s.heap.get? b = some o → h'.get? b = some o) → EP X pins σ Q (.str p.shown t) { s with heap := h', toks := s.toks } → True := fun _ _ _ _ => trivial
  cases rd with
  | none =>
    refine PySem.P.repr_of_none ?_
    refine ⟨.str _, H, I.tok _, ⟨_, rfl⟩, ?_⟩
    simpa only [PyData.shown] using q
  | bool b =>
    refine PySem.P.repr_of_bool ?_
    refine ⟨.str _, H, I.tok _, ⟨_, rfl⟩, ?_⟩
    simpa only [PyData.shown] using q
  | int i t =>
    refine PySem.P.repr_of_int (by simpa [PyData.showable] using h1) ?_
    refine ⟨.str _, H, I.tok _, ⟨_, rfl⟩, ?_⟩
    simpa only [PyData.shown] using q
  | str y t =>
    refine PySem.P.repr_of_str ?_ (by simpa only [PyData.shown] using hz)
    refine ⟨.str _, H, I.tok _, ⟨_, rfl⟩, ?_⟩
    simpa only [PyData.shown] using q
  | list a1 a2 a3 a4 =>
    exact repr_of_reads' (.list a1 a2 a3 a4) h1 (fun z => by rw [h2] at z; cases z) hg (by omega) (fun _ _ e => e) (fun h' t tk hk => ⟨.str _, H, I.kept hk, ⟨t, rfl⟩, q⟩) hz
  | tuple a1 a2 a3 a4 =>
    exact repr_of_reads' (.tuple a1 a2 a3 a4) h1 (fun z => by rw [h2] at z; cases z) hg (by omega) (fun _ _ e => e) (fun h' t tk hk => ⟨.str _, H, I.kept hk, ⟨t, rfl⟩, q⟩) hz
  | dict => cases hd
theorem cb_repr (hg : X.A.guards = some []) (hu : X.A.units + 128 < cLine) : CallR X (.builtin "repr") (rDs X.K (un1 reprD)) := by
  refine cb1 (call_reprP hg hu) fun x H Q Fr ρ h d p r d1 q k => ?_
  unfold reprD at q
  split at q
  · rename_i p hp
    split at q
    · rename_i hs
      cases q
      exact ⟨x, p, rfl, r.dp hp d1, hs, k.same r (rd_str.mpr rfl)⟩
    · cases q
  · cases q
end
end FF

/-! FFSE4: isinstance, sorted, methods. -/
namespace FF
open PySem PySem.Spec PyProof.Rows L2

/-! ### sorted -/
section
variable {X : Cx}
/-! ### isinstance(x, T), T one of four -/
/-! ### methods -/
def rM (K : PySem.W.Frag) (g : D → List D → Hq → Option (D × Hq)) : V → List V → Hp → VK → Prop := fun x xs H Q => ∃ Fr ρ h d ds, HR K Fr ρ h H ∧ RD K Fr ρ H d x ∧ RDs K Fr ρ H ds xs ∧ ∃ p, g d ds h = some p ∧ Kont K Fr ρ H Q p
theorem mt_appendD : MtR X "list.append" (rM X.K appendD) := by
  refine MtR.imp (show MtR X "list.append" rAppend from mt_append) fun x xs H Q ⟨Fr, ρ, h, d, ds, r, d1, d2, p, q, k⟩ => ?_
  unfold appendD at q
  split at q
  · rename_i n v
    split at q
    · rename_i es hn
      split at q
      · rename_i hl
        cases q
        obtain ⟨a, vs, rfl, ha, e3, rs⟩ := r.lst d1 hn
        obtain ⟨w, e, d3⟩ := rds1 d2
        subst e
        refine ⟨a, vs, w, rfl, rfl, e3, by rw [← rs.length, sizeLine_eq]; exact hl, ?_⟩
        exact k _ ρ _ (ext_set r ha) (r.set ha ⟨_, upd_same, RDs.mono (ext_set r ha) _ _ (rs.append (.cons d3 .nil))⟩) (rd_non.mpr rfl)
      · cases q
    · cases q
  · cases q
theorem mt_popAtD : MtR X "list.pop" (rM X.K popAtD) := by
  refine MtR.imp (show MtR X "list.pop" rPopAt from mt_popAt) fun x xs H Q ⟨Fr, ρ, h, d, ds, r, d1, d2, p, q, k⟩ => ?_
  unfold popAtD at q
  split at q
  · rename_i n i
    split at q
    · rename_i es hn
      split at q
      · rename_i j hj
        split at q
        · rename_i y hy
          split at q
          · rename_i hl
            cases q
            obtain ⟨a, vs, rfl, ha, e3, rs⟩ := r.lst d1 hn
            obtain ⟨w, e, d3⟩ := rds1 d2
            subst e
            obtain ⟨v, e4, d4⟩ := rs.get hy
            obtain ⟨z1, z2, z3, z4⟩ := ixN_seq hj
            refine ⟨a, vs, i, j, v, rfl, by rw [rd_int.mp d3], e3, by omega, by omega, by rw [← rs.length]; exact z1, e4, ?_⟩
            exact k _ ρ _ (ext_set r ha) (r.set ha ⟨_, upd_same, RDs.mono (ext_set r ha) _ _ (rs.eraseIdx _)⟩) (RD.mono (ext_set r ha) _ _ d4)
          · cases q
        · cases q
      · cases q
    · cases q
  · cases q
end
end FF

/-! FFSE5: expressions in whole. -/
namespace FF
open PySem PySem.Spec PyProof.Rows L2

section
variable {X : Cx} {W : EK X.K}
/-! ### names, constants -/
theorem se_var {x : Str} {pos : Pos} {i : Nat} (hN : X.N[i]? = some x) (hv : Vis X.env.scope x) (hd : (x == ("__debug__" : Str)) = false) (hcd : (x == ("__classdict__" : Str)) = false) :
    SE X W (.Name x pos) (fun s h => match s[i]? with | some (some d) => R.ok (d, h) | _ => R.stuck) := by
  refine PE.imp (pe_var hN hv hd hcd) fun σ H Q ⟨Fr, ρ, s, h, r, sr, ok⟩ => ?_
  have ok : okR _ _ (match s[i]? with | some (some d) => R.ok (d, h) | _ => R.stuck) := ok
  split at ok
  · rename_i d e
    obtain ⟨v, e1, q⟩ := sr.get i d e
    exact ⟨v, e1, Kont.same ok r q⟩
  · exact ok.elim
theorem se_const {e : Expr} {v : V} {d : D} (h : PE X e (tC v)) (hr : ∀ Fr ρ H, RD X.K Fr ρ H d v) : SE X W e (fun _ h => .ok (d, h)) :=
  PE.imp h fun σ H Q ⟨Fr, ρ, s, h, r, sr, ok⟩ => Kont.same ok r (hr _ _ _)

/-! ### operators -/
theorem se_bin {op : Operator} {live : Bool} {a b : Expr} {pos : Pos} {fa fb : Env' → Hq → R (D × Hq)} (ha : SE X W a fa) (hb : SE X W b fb) :
    SE X W (.BinOp a op b pos) (fun s h => (fa s h).bind fun p => (fb s p.2).bind fun q => lift (binop op live p.1 q.1 q.2)) :=
  PE.imp (pe_op (op_bin op live) ha hb) fun _ _ _ t => t2o (g := binop op live) t
theorem se_neg {a : Expr} {pos : Pos} {fa : Env' → Hq → R (D × Hq)} (ha : SE X W a fa) : SE X W (.UnaryOp .USub a pos) (fun s h => (fa s h).bind fun p => lift (negD p.1 p.2)) :=
  PE.imp (pe_un un_negD ha) fun _ _ _ t => t1o (g := negD) t
theorem se_cmp {op : CmpOp} {a b : Expr} {pos : Pos} {fa fb : Env' → Hq → R (D × Hq)} (hu : X.A.units + 65 < cLine) (ha : SE X W a fa) (hb : SE X W b fb) (hm : behindInMarks op b = false) :
    SE X W (.Compare a [op] [b] pos) (fun s h => (fa s h).bind fun p => (fb s p.2).bind fun q => lift (cmpop op p.1 q.1 q.2)) :=
  PE.imp (pe_cmpR (op_cmp hu op) ha hb hm) fun _ _ _ t => t2o (g := cmpop op) t

/-! ### tests -/
theorem RDs.isEmpty {K : PySem.W.Frag} {Fr ρ : List Addr} {H : Hp} {ds : List D} {vs : List V} (q : RDs K Fr ρ H ds vs) : ds.isEmpty = vs.isEmpty := by
  have := q.length
  cases ds with
  | nil =>
    cases vs with
    | nil => rfl
    | cons a b => cases this
  | cons a b =>
    cases vs with
    | nil => cases this
    | cons a b => rfl
theorem KR.isEmpty {κ : Type} [DecidableEq κ] {K : PySem.W.Frag} {Fr ρ : List Addr} {H : Hp} {ds : List (κ × D)} {vs : List (κ × V)} (q : KR K Fr ρ H ds vs) : ds.isEmpty = vs.isEmpty := by
  have := q.length
  cases ds with
  | nil =>
    cases vs with
    | nil => rfl
    | cons a b => cases this
  | cons a b =>
    cases vs with
    | nil => cases this
    | cons a b => rfl
/-- the value's truth is the test's -/
theorem truth_tru {K : PySem.W.Frag} {Fr ρ : List Addr} {H : Hp} {h : Hq} (r : HR K Fr ρ h H) {d : D} {v : V} {b : Bool} (k : RD K Fr ρ H d v) (e : truth h d = some b) : TruV K v H b := by
  unfold truth at e
  split at e
  · cases e; rw [rd_non.mp k]; rfl
  · cases e; rw [rd_bl.mp k]; rfl
  · cases e; rw [rd_int.mp k]; rfl
  · split at e
    · rename_i hl
      cases e
      rw [rd_str.mp k]
      refine ⟨lineOk_le hl, ?_⟩
      generalize Str.length _ = n
      cases n with
      | zero => rfl
      | succ n => simp; omega
    · cases e
  · cases e
    obtain ⟨a, vs, rfl, s, q⟩ := k.sqT
    exact .inr (.inl ⟨vs, s, by rw [q.isEmpty]⟩)
  · cases e
    obtain ⟨a, vs, rfl, s, q⟩ := k.sqL
    exact .inl ⟨vs, .of s, by rw [q.isEmpty]⟩
  · split at e
    · rename_i n _ ds hn
      cases e
      obtain ⟨a, vs, rfl, _, s, q⟩ := r.lst k hn
      exact .inl ⟨vs, .of s, by rw [q.isEmpty]⟩
    · rename_i n _ ds hn
      cases e
      obtain ⟨a, vs, rfl, _, s, q⟩ := r.dct k hn
      exact .inr (.inr ⟨vs, s, by rw [q.isEmpty]⟩)
    · cases e
  · cases e
/-- an expression with no own way of testing -/
theorem st_plain {a : Expr} {fa : Env' → Hq → R (D × Hq)} (ha : SE X W a fa) (he : ∀ whole, isTrue a X.env whole = (do let v ← whole; standAt a.pos; holding [v] (truthy v))) : ST X W a (fun s h => testOf (fa s h)) := by
  refine PT.imp (pt_truth ha he) fun σ H Q ⟨Fr, ρ, s, h, r, sr, ok⟩ => ?_
  refine ⟨Fr, ρ, s, h, r, sr, (okR_bind.mp ok).mono (fun p q v ρ1 H1 x1 r1 d1 => ?_) fun _ _ z => z⟩
  have q : okR _ _ (match truth p.2 p.1 with | some b => R.ok (b, p.2) | none => .stuck) := q
  split at q
  · rename_i b hb
    exact ⟨b, truth_tru r1 d1 hb, q ρ1 H1 x1 r1⟩
  · exact q.elim
/-- a test that comes as a bool -/
theorem tt_bool {K : PySem.W.Frag} {W : EK K} {f : Env' → Hq → R (D × Hq)} (hb : ∀ s h p, f s h = .ok p → ∃ b, p.1 = .bl b) {σ : L2.St} {H : Hp} {Q : Bool → Hp → Prop} (t : TTk K W (fun s h => testOf (f s h)) σ H Q) :
    TEk K W f σ H fun x H' => ∃ k, x = .bl k ∧ Q k H' := by
  obtain ⟨Fr, ρ, s, h, r, sr, ok⟩ := t
  refine ⟨Fr, ρ, s, h, r, sr, ?_⟩
  dsimp only at ok
  cases e : f s h with
  | stuck => rw [e] at ok; exact ok
  | exc a b => rw [e] at ok; exact ok
  | ok p =>
    obtain ⟨b, e2⟩ := hb s h p e
    rw [e] at ok
    obtain ⟨p1, p2⟩ := p
    dsimp only at e2
    subst e2
    exact fun v ρ' H' x r d => ⟨b, rd_bl.mp d, ok ρ' H' x r⟩
theorem lift_ok {α : Type} {o : Option α} {a : α} (h : lift o = .ok a) : o = some a := by
  cases o with
  | none => cases h
  | some b => cases h; rfl
theorem bind_ok {α β : Type} {r : R α} {f : α → R β} {b : β} (h : r.bind f = .ok b) : ∃ a, r = .ok a ∧ f a = .ok b := by
  cases r with
  | ok a => exact ⟨a, rfl, h⟩
  | exc _ _ => cases h
  | stuck => cases h
theorem ofO_bl {h : Hq} {o : Option Bool} {p : D × Hq} {g : Bool → Bool} (e : ofO h (o.map fun b => .bl (g b)) = some p) : ∃ b, p.1 = .bl b := by
  obtain ⟨q1, _⟩ := ofO_some e
  obtain ⟨b, _, e2⟩ := Option.map_eq_some_iff.mp q1
  exact ⟨g b, e2.symm⟩
theorem intC_bl {g : Int → Int → Bool} {x y : D} {h : Hq} {p : D × Hq} (e : intC g x y h = some p) : ∃ b, p.1 = .bl b := by
  unfold intC at e
  split at e
  · cases e; exact ⟨_, rfl⟩
  · cases e
theorem cmpop_bl {op : CmpOp} {x y : D} {h : Hq} {p : D × Hq} (e : cmpop op x y h = some p) : ∃ b, p.1 = .bl b := by
  cases op
  case Eq => exact ofO_bl (g := id) e
  case NotEq => exact ofO_bl e
  case Lt => exact ofO_bl (g := id) e
  case LtE => exact intC_bl e
  case Gt => exact intC_bl e
  case GtE => exact intC_bl e
  case Is =>
    have e : (if isNon y then some (D.bl (isNon x), h) else isBB id x y h) = some p := e
    split at e
    · cases e; exact ⟨_, rfl⟩
    · unfold isBB at e
      split at e
      · cases e; exact ⟨_, rfl⟩
      · cases e
  case IsNot =>
    have e : (if isNon y then some (D.bl (!isNon x), h) else isBB not x y h) = some p := e
    split at e
    · cases e; exact ⟨_, rfl⟩
    · unfold isBB at e
      split at e
      · cases e; exact ⟨_, rfl⟩
      · cases e
  case In => exact ofO_bl (g := id) e
  case NotIn => exact ofO_bl e
theorem st_cmp {op : CmpOp} {a b : Expr} {pos : Pos} {fa fb : Env' → Hq → R (D × Hq)} (hu : X.A.units + 65 < cLine) (ha : SE X W a fa) (hb : SE X W b fb) (hm : behindInMarks op b = false) :
    ST X W (.Compare a [op] [b] pos) (fun s h => testOf ((fa s h).bind fun p => (fb s p.2).bind fun q => lift (cmpop op p.1 q.1 q.2))) := by
  refine PT.imp (pt_cmpR (op_cmp hu op) ha hb hm) fun σ H Q t => ?_
  refine t2o (g := cmpop op) (tt_bool (fun s h p e => ?_) t)
  obtain ⟨x, _, e⟩ := bind_ok e
  obtain ⟨y, _, e⟩ := bind_ok e
  exact cmpop_bl (lift_ok e)
/-! ### and, or, not, if -/
def andD (fa fb : Env' → Hq → R (D × Hq)) : Env' → Hq → R (D × Hq) := fun s h => (fa s h).bind fun p => match truth p.2 p.1 with | some true => fb s p.2 | some false => .ok p | none => .stuck
def orD (fa fb : Env' → Hq → R (D × Hq)) : Env' → Hq → R (D × Hq) := fun s h => (fa s h).bind fun p => match truth p.2 p.1 with | some false => fb s p.2 | some true => .ok p | none => .stuck
theorem se_and {a b : Expr} {rest : List Expr} {pos : Pos} {fa fb : Env' → Hq → R (D × Hq)} (ha : SE X W a fa) (hb : SE X W (.BoolOp .And (b :: rest) pos) fb) : SE X W (.BoolOp .And (a :: b :: rest) pos) (andD fa fb) := by
  refine PE.imp (pe_andT ha hb) fun σ H Q ⟨Fr, ρ, s, h, r, sr, ok⟩ => ?_
  refine ⟨Fr, ρ, s, h, r, sr, (okR_bind.mp ok).mono (fun p q v ρ1 H1 x1 r1 d1 => ?_) fun _ _ z => z⟩
  split at q
  · rename_i hb
    refine ⟨true, truth_tru r1 d1 hb, ?_⟩
    rw [if_pos rfl]
    exact ⟨Fr, ρ1, s, p.2, r1, sr.mono x1, q.mono (fun p2 k u ρ2 H2 x2 r2 d2 => k u ρ2 H2 (x1.step r1 x2) r2 d2) fun _ _ z => W.mono x1 r1 z⟩
  · rename_i hb
    refine ⟨false, truth_tru r1 d1 hb, ?_⟩
    rw [if_neg Bool.false_ne_true]
    exact q v ρ1 H1 x1 r1 d1
  · exact q.elim
theorem se_one {op : BoolOp} {a : Expr} {pos : Pos} {fa : Env' → Hq → R (D × Hq)} (ha : SE X W a fa) : SE X W (.BoolOp op [a] pos) fa := pe_one ha
/-- tests of and, or: whatever the whole is -/
def SW (X : Cx) (W : EK X.K) (e : Expr) (f : Env' → Hq → R (Bool × Hq)) : Prop := PW X e (TTk X.K W f)
theorem PW.imp {e : Expr} {t t' : TT} (h : PW X e t) (i : ∀ σ H Q, t' σ H Q → t σ H Q) : PW X e t' := ⟨fun wh pins s σ H Q I q => h.run wh pins s σ H Q I (i σ H Q q)⟩
theorem sw_and {a b : Expr} {rest : List Expr} {pos : Pos} {fa fb : Env' → Hq → R (D × Hq)} (ha : ST X W a (fun s h => testOf (fa s h))) (hb : SW X W (.BoolOp .And (b :: rest) pos) (fun s h => testOf (fb s h))) :
    SW X W (.BoolOp .And (a :: b :: rest) pos) (fun s h => testOf (andD fa fb s h)) := by
  refine PW.imp (pw_and ha hb) fun σ H Q ⟨Fr, ρ, s, h, r, sr, ok⟩ => ?_
  refine ⟨Fr, ρ, s, h, r, sr, ?_⟩
  dsimp only at ok ⊢
  unfold andD at ok
  cases e : fa s h with
  | stuck => rw [e] at ok; exact ok
  | exc a b => rw [e] at ok; exact ok
  | ok p =>
    rw [e] at ok
    have ok : okR _ _ (testOf (match truth p.2 p.1 with | some true => fb s p.2 | some false => .ok p | none => .stuck)) := ok
    show okR _ _ (match truth p.2 p.1 with | some b => R.ok (b, p.2) | none => .stuck)
    cases et : truth p.2 p.1 with
    | none => rw [et] at ok; exact ok
    | some b =>
      rw [et] at ok
      cases b with
      | true =>
        refine fun ρ1 H1 x1 r1 => ?_
        show (if true = true then _ else _)
        rw [if_pos rfl]
        exact ⟨Fr, ρ1, s, p.2, r1, sr.mono x1, okR.mono ok (fun p2 k ρ2 H2 x2 r2 => k ρ2 H2 (x1.step r1 x2) r2) fun _ _ z => W.mono x1 r1 z⟩
      | false =>
        refine fun ρ1 H1 x1 r1 => ?_
        show (if false = true then _ else _)
        rw [if_neg Bool.false_ne_true]
        have ok : okR _ _ (match truth p.2 p.1 with | some b => R.ok (b, p.2) | none => .stuck) := ok
        rw [et] at ok
        exact ok ρ1 H1 x1 r1
theorem sw_or {a b : Expr} {rest : List Expr} {pos : Pos} {fa fb : Env' → Hq → R (D × Hq)} (ha : ST X W a (fun s h => testOf (fa s h))) (hb : SW X W (.BoolOp .Or (b :: rest) pos) (fun s h => testOf (fb s h))) :
    SW X W (.BoolOp .Or (a :: b :: rest) pos) (fun s h => testOf (orD fa fb s h)) := by
  refine PW.imp (pw_or ha hb) fun σ H Q ⟨Fr, ρ, s, h, r, sr, ok⟩ => ?_
  refine ⟨Fr, ρ, s, h, r, sr, ?_⟩
  dsimp only at ok ⊢
  unfold orD at ok
  cases e : fa s h with
  | stuck => rw [e] at ok; exact ok
  | exc a b => rw [e] at ok; exact ok
  | ok p =>
    rw [e] at ok
    have ok : okR _ _ (testOf (match truth p.2 p.1 with | some false => fb s p.2 | some true => .ok p | none => .stuck)) := ok
    show okR _ _ (match truth p.2 p.1 with | some b => R.ok (b, p.2) | none => .stuck)
    cases et : truth p.2 p.1 with
    | none => rw [et] at ok; exact ok
    | some b =>
      rw [et] at ok
      cases b with
      | false =>
        refine fun ρ1 H1 x1 r1 => ?_
        show (if false = true then _ else _)
        rw [if_neg Bool.false_ne_true]
        exact ⟨Fr, ρ1, s, p.2, r1, sr.mono x1, okR.mono ok (fun p2 k ρ2 H2 x2 r2 => k ρ2 H2 (x1.step r1 x2) r2) fun _ _ z => W.mono x1 r1 z⟩
      | true =>
        refine fun ρ1 H1 x1 r1 => ?_
        show (if true = true then _ else _)
        rw [if_pos rfl]
        have ok : okR _ _ (match truth p.2 p.1 with | some b => R.ok (b, p.2) | none => .stuck) := ok
        rw [et] at ok
        exact ok ρ1 H1 x1 r1
theorem sw_one_and {a : Expr} {pos : Pos} {fa : Env' → Hq → R (D × Hq)} (ha : ST X W a (fun s h => testOf (fa s h))) : SW X W (.BoolOp .And [a] pos) (fun s h => testOf (fa s h)) := pw_and1 ha
theorem sw_one_or {a : Expr} {pos : Pos} {fa : Env' → Hq → R (D × Hq)} (ha : ST X W a (fun s h => testOf (fa s h))) : SW X W (.BoolOp .Or [a] pos) (fun s h => testOf (fa s h)) := pw_or1 ha
def ifD (ft fa fb : Env' → Hq → R (D × Hq)) : Env' → Hq → R (D × Hq) := fun s h => (testOf (ft s h)).bind fun c => if c.1 then fa s c.2 else fb s c.2
theorem se_if {t a b : Expr} {pos : Pos} {ft fa fb : Env' → Hq → R (D × Hq)} (ht : ST X W t (fun s h => testOf (ft s h))) (ha : SE X W a fa) (hb : SE X W b fb) : SE X W (.IfExp t a b pos) (ifD ft fa fb) := by
  refine PE.imp (pe_ifExp ht ha hb) fun σ H Q ⟨Fr, ρ, s, h, r, sr, ok⟩ => ?_
  refine ⟨Fr, ρ, s, h, r, sr, (okR_bind.mp ok).mono (fun p q ρ1 H1 x1 r1 => ?_) fun _ _ z => z⟩
  obtain ⟨c, h1⟩ := p
  cases c with
  | true =>
    rw [if_pos rfl]
    exact ⟨Fr, ρ1, s, h1, r1, sr.mono x1, okR.mono (show okR _ _ (fa s h1) from q) (fun p2 k u ρ2 H2 x2 r2 d2 => k u ρ2 H2 (x1.step r1 x2) r2 d2) fun _ _ z => W.mono x1 r1 z⟩
  | false =>
    rw [if_neg Bool.false_ne_true]
    exact ⟨Fr, ρ1, s, h1, r1, sr.mono x1, okR.mono (show okR _ _ (fb s h1) from q) (fun p2 k u ρ2 H2 x2 r2 d2 => k u ρ2 H2 (x1.step r1 x2) r2 d2) fun _ _ z => W.mono x1 r1 z⟩
end
end FF

/-! FFSE6: arguments, displays, calls of built-ins, methods, slices. -/
namespace FF
open PySem PySem.Spec PyProof.Rows L2

section
variable {X : Cx} {W : EK X.K}
theorem sa_nil : SA X W [] (fun _ h => .ok ([], h)) := PA.imp pa_nil fun σ H Q ⟨Fr, ρ, s, h, r, sr, ok⟩ => ok [] ρ H .refl r RDs.nil
theorem sa_cons {e : Expr} {es : List Expr} {fe : Env' → Hq → R (D × Hq)} {fs : Env' → Hq → R (List D × Hq)} (he : SE X W e fe) (hs : SA X W es fs) (hst : starEach (e :: es) X.env = (false, eval e X.env) :: starEach es X.env) :
    SA X W (e :: es) (fun s h => (fe s h).bind fun p => (fs s p.2).bind fun q => .ok (p.1 :: q.1, q.2)) := by
  refine PA.imp (pa_cons he hs hst) fun σ H Q ⟨Fr, ρ, s, h, r, sr, ok⟩ => ?_
  refine ⟨Fr, ρ, s, h, r, sr, (okR_bind.mp ok).mono (fun p q v ρ1 H1 x1 r1 d1 => ?_) fun _ _ z => z⟩
  refine ⟨Fr, ρ1, s, p.2, r1, sr.mono x1, (okR_bind.mp q).mono (fun p2 q2 w ρ2 H2 x2 r2 d2 => ?_) fun _ _ z => W.mono x1 r1 z⟩
  exact q2 _ ρ2 H2 (x1.step r1 x2) r2 (.cons (RD.mono x2 _ _ d1) d2)
/-- what is done with the arguments' values -/
theorem tA {K : PySem.W.Frag} {W : EK K} {fs : Env' → Hq → R (List D × Hq)} {g : List D → Hq → R (D × Hq)} {σ : L2.St} {H : Hp} {Q : VK} (t : TEk K W (fun s h => (fs s h).bind fun q => g q.1 q.2) σ H Q) :
    TAk K W fs σ H fun xs H1 => ∃ Fr ρ h ds, HR K Fr ρ h H1 ∧ RDs K Fr ρ H1 ds xs ∧ okR (Kont K Fr ρ H1 Q) (W.p Fr ρ H1 σ) (g ds h) := by
  obtain ⟨Fr, ρ, s, h, r, sr, ok⟩ := t
  refine ⟨Fr, ρ, s, h, r, sr, (okR_bind.mp ok).mono (fun p q v ρ1 H1 x1 r1 d1 => ?_) fun _ _ z => z⟩
  exact ⟨Fr, ρ1, p.2, p.1, r1, d1, q.mono (fun a k u ρ3 H3 x3 r3 d3 => k u ρ3 H3 (x1.step r1 x3) r3 d3) fun _ _ z => W.mono x1 r1 z⟩
theorem TAk.mono {K : PySem.W.Frag} {W : EK K} {fs : Env' → Hq → R (List D × Hq)} {σ : L2.St} {H : Hp} {Q Q' : List V → Hp → Prop} (t : TAk K W fs σ H Q) (i : ∀ xs H, Q xs H → Q' xs H) : TAk K W fs σ H Q' := by
  obtain ⟨Fr, ρ, s, h, r, sr, ok⟩ := t
  exact ⟨Fr, ρ, s, h, r, sr, ok.mono (fun p q v ρ1 H1 x1 r1 d1 => i _ _ (q v ρ1 H1 x1 r1 d1)) fun _ _ z => z⟩
theorem TEk.kmono {K : PySem.W.Frag} {W : EK K} {fs : Env' → Hq → R (D × Hq)} {σ : L2.St} {H : Hp} {Q Q' : VK} (t : TEk K W fs σ H Q) (i : ∀ xs H, Q xs H → Q' xs H) : TEk K W fs σ H Q' := by
  obtain ⟨Fr, ρ, s, h, r, sr, ok⟩ := t
  exact ⟨Fr, ρ, s, h, r, sr, ok.mono (fun p q v ρ1 H1 x1 r1 d1 => i _ _ (q v ρ1 H1 x1 r1 d1)) fun _ _ z => z⟩
theorem tAo {K : PySem.W.Frag} {W : EK K} {fs : Env' → Hq → R (List D × Hq)} {g : List D → Hq → Option (D × Hq)} {σ : L2.St} {H : Hp} {Q : VK} (t : TEk K W (fun s h => (fs s h).bind fun q => lift (g q.1 q.2)) σ H Q) :
    tCB (rDs K g) (TAk K W fs) σ H Q :=
  (tA (g := fun ds h => lift (g ds h)) t).mono fun xs H1 ⟨Fr, ρ, h, ds, r, d, ok⟩ => ⟨Fr, ρ, h, ds, r, d, okR_lift ok⟩
/-- a display of a tuple, of a list -/
theorem se_tup {es : List Expr} {x1 : Nat} {pos : Pos} {fs : Env' → Hq → R (List D × Hq)} (h : SA X W es fs) : SE X W (.Tuple es x1 pos) (fun s h => (fs s h).bind fun q => lift (mkT q.1 q.2)) := by
  refine PE.imp (pe_tup h) fun σ H Q t => (tA (g := fun ds h => lift (mkT ds h)) t).mono fun xs H1 ⟨Fr, ρ, h, ds, r, d, ok⟩ => ?_
  obtain ⟨p, e, k⟩ := okR_lift ok
  unfold mkT at e
  split at e
  · rename_i hl
    cases e
    exact ⟨by rw [← d.length]; exact lineOk_le hl, fun p hp => Kont.tup k r d hp⟩
  · cases e
theorem se_lst {es : List Expr} {pos : Pos} {live : Bool} {fs : Env' → Hq → R (List D × Hq)} (h : SA X W es fs) : SE X W (.List es pos) (fun s h => (fs s h).bind fun q => lift (mkL live q.1 q.2)) := by
  refine PE.imp (pe_lst h) fun σ H Q t => (tA (g := fun ds h => lift (mkL live ds h)) t).mono fun xs H1 ⟨Fr, ρ, h, ds, r, d, ok⟩ => ?_
  obtain ⟨p, e, k⟩ := okR_lift ok
  exact ⟨by rw [← d.length]; exact mkL_len e, fun p hp => Kont.lst k e r d hp⟩
/-- calls of built-ins -/
theorem se_cb {id : String} {x : Str} {e : Expr} {es : List Expr} {p pos : Pos} {g : List D → Hq → Option (D × Hq)} {fs : Env' → Hq → R (List D × Hq)} (hc : CallR X (.builtin id) (rDs X.K g)) (hg : Gl X x) (hm : X.mg x = none) (hv : bootBuiltins x = some (.builtin id))
    (ha : SA X W (e :: es) fs) (hn : x ≠ "__name__") (hdb : (x == ("__debug__" : Str)) = false) (he : starEach (e :: es) X.env = (false, eval e X.env) :: starEach es X.env) (hpl : (backTo pos (starEach es X.env)).any (·.1) = false) :
    SE X W (.Call (.Name x p) (e :: es) [] pos) (fun s h => (fs s h).bind fun q => lift (g q.1 q.2)) := PE.imp (pe_callB hc hg hm hv ha hn hdb he hpl) fun _ _ _ t => tAo t
theorem se_ct {T : String} {x : Str} {e : Expr} {es : List Expr} {p pos : Pos} {g : List D → Hq → Option (D × Hq)} {fs : Env' → Hq → R (List D × Hq)} (hc : CallR X (.type T) (rDs X.K g)) (hg : Gl X x) (hm : X.mg x = none) (hv : bootBuiltins x = some (.type T))
    (ha : SA X W (e :: es) fs) (hn : x ≠ "__name__") (hdb : (x == ("__debug__" : Str)) = false) (he : starEach (e :: es) X.env = (false, eval e X.env) :: starEach es X.env) (hpl : (backTo pos (starEach es X.env)).any (·.1) = false) :
    SE X W (.Call (.Name x p) (e :: es) [] pos) (fun s h => (fs s h).bind fun q => lift (g q.1 q.2)) := PE.imp (pe_callTy hc hg hm hv ha hn hdb he hpl) fun _ _ _ t => tAo t
/-! ### slices -/
def SO (X : Cx) (W : EK X.K) (e : Option Expr) (f : Env' → Hq → R (Option Int × Hq)) : Prop := PO X e (fun σ H Q => ∃ Fr ρ s h, HR X.K Fr ρ h H ∧ SR X.K Fr ρ H s σ ∧ okR (fun p => ∀ ρ' H', Ext ρ H ρ' H' → HR X.K Fr ρ' p.2 H' → Q p.1 H') (W.p Fr ρ H σ) (f s h))
theorem PO.imp {e : Option Expr} {t t' : TO} (h : PO X e t) (i : ∀ σ H Q, t' σ H Q → t σ H Q) : PO X e t' := ⟨fun pins s σ H Q I q => h.run pins s σ H Q I (i _ _ _ q)⟩
theorem so_no : SO X W none (fun _ h => .ok (none, h)) := PO.imp po_none fun σ H Q ⟨Fr, ρ, s, h, r, sr, ok⟩ => ok ρ H .refl r
theorem so_yes {e : Expr} {fe : Env' → Hq → R (D × Hq)} (he : SE X W e fe) : SO X W (some e) (fun s h => (fe s h).bind fun p => match p.1 with | .int i => .ok (some i, p.2) | _ => .stuck) := by
  refine PO.imp (po_some he) fun σ H Q ⟨Fr, ρ, s, h, r, sr, ok⟩ => ?_
  refine ⟨Fr, ρ, s, h, r, sr, (okR_bind.mp ok).mono (fun p q v ρ1 H1 x1 r1 d1 => ?_) fun _ _ z => z⟩
  split at q
  · rename_i i e
    rw [e] at d1
    exact ⟨i, rd_int.mp d1, q ρ1 H1 x1 r1⟩
  · exact q.elim
theorem se_slice {e : Expr} {lo hi : Option Expr} {p2 pos : Pos} {fe : Env' → Hq → R (D × Hq)} {fl fh : Env' → Hq → R (Option Int × Hq)} (he : SE X W e fe) (hl : SO X W lo fl) (hh : SO X W hi fh) :
    SE X W (.Subscript e (.Slice lo hi none p2) pos) (fun s h => (fe s h).bind fun p => (fl s p.2).bind fun l => (fh s l.2).bind fun u => lift (sliceD p.1 l.1 u.1 u.2)) := by
  refine PE.imp (pe_slice sl_D he hl hh) fun σ H Q ⟨Fr, ρ, s, h, r, sr, ok⟩ => ?_
  refine ⟨Fr, ρ, s, h, r, sr, (okR_bind.mp ok).mono (fun p q v ρ1 H1 x1 r1 d1 => ?_) fun _ _ z => z⟩
  refine ⟨Fr, ρ1, s, p.2, r1, sr.mono x1, (okR_bind.mp q).mono (fun p2 q2 ρ2 H2 x2 r2 => ?_) fun _ _ z => W.mono x1 r1 z⟩
  refine ⟨Fr, ρ2, s, p2.2, r2, sr.mono (x1.step r1 x2), (okR_bind.mp q2).mono (fun p3 q3 ρ3 H3 x3 r3 => ?_) fun _ _ z => W.mono (x1.step r1 x2) r2 z⟩
  obtain ⟨y, e, k⟩ := okR_lift q3
  exact ⟨Fr, ρ3, p3.2, p.1, r3, RD.mono (x2.step r2 x3) _ _ d1, y, e, fun u ρ4 H4 x4 r4 d4 => k u ρ4 H4 (((x1.step r1 x2).step r2 x3).step r3 x4) r4 d4⟩
/-! ### methods -/
/-- o.m(args), where the kind of o is k0 -/
def mthD (m : Me) (k0 : Kd) (g : D → List D → Hq → Option (D × Hq)) (fo : Env' → Hq → R (D × Hq)) (fs : Env' → Hq → R (List D × Hq)) : Env' → Hq → R (D × Hq) :=
  fun s h => (fo s h).bind fun p => if meKind m p.1 p.2 = some k0 then (fs s p.2).bind fun q => lift (g p.1 q.1 q.2) else .stuck
theorem tM {K : PySem.W.Frag} {W : EK K} {m : Me} {k0 : Kd} {T : String} {g : D → List D → Hq → Option (D × Hq)} {fo : Env' → Hq → R (D × Hq)} {fs : Env' → Hq → R (List D × Hq)} {σ : L2.St} {H : Hp} {Q : VK}
    (ht : ∀ Fr ρ h H d x, HR K Fr ρ h H → RD K Fr ρ H d x → kdOf h d = some k0 → tyV K T x H) (t : TEk K W (mthD m k0 g fo fs) σ H Q) : tBM K T (rM K g) (TEk K W fo) (TAk K W fs) σ H Q := by
  obtain ⟨Fr, ρ, s, h, r, sr, ok⟩ := t
  refine ⟨Fr, ρ, s, h, r, sr, (okR_bind.mp ok).mono (fun p q v ρ1 H1 x1 r1 d1 => ?_) fun _ _ z => z⟩
  split at q
  · rename_i hk
    have hk' : kdOf p.2 p.1 = some k0 := by
      unfold meKind at hk
      split at hk
      · rename_i k e
        split at hk
        · rw [e]; exact hk
        · cases hk
      · cases hk
    refine ⟨ht _ _ _ _ _ _ r1 d1 hk', Fr, ρ1, s, p.2, r1, sr.mono x1, (okR_bind.mp q).mono (fun p2 q2 w ρ2 H2 x2 r2 d2 => ?_) fun _ _ z => W.mono x1 r1 z⟩
    obtain ⟨y, e, k⟩ := okR_lift q2
    exact ⟨Fr, ρ2, p2.2, p.1, p2.1, r2, RD.mono x2 _ _ d1, d2, y, e, fun u ρ4 H4 x4 r4 d4 => k u ρ4 H4 ((x1.step r1 x2).step r2 x4) r4 d4⟩
  · exact q.elim
theorem ty_lst {K : PySem.W.Frag} {Fr ρ : List Addr} {h : Hq} {H : Hp} {d : D} {x : V} (r : HR K Fr ρ h H) (k : RD K Fr ρ H d x) (e : kdOf h d = some .lst) : tyV K "list" x H := by
  unfold kdOf at e
  split at e
  · split at e
    · rename_i ds hn
      obtain ⟨a, vs, rfl, _, s, q⟩ := r.lst k hn
      exact .inl ⟨rfl, vs, .of s⟩
    · cases e
    · cases e
  · cases e
  · cases e
  · cases e
  · cases e
end
end FF

/-! FFSE7: what is walked; targets; comprehensions. -/
namespace FF
open PySem PySem.Spec PyProof.Rows L2

mutual
theorem D.beq_eq : ∀ {a b : D}, D.beq a b = true → a = b
  | .non, b, h => by cases b <;> simp [D.beq] at h; rfl
  | .bl x, b, h => by cases b <;> simp [D.beq] at h; rw [h]
  | .int x, b, h => by cases b <;> simp [D.beq] at h; rw [h]
  | .str x, b, h => by cases b <;> simp [D.beq] at h; rw [h]
  | .scr x, b, h => by cases b <;> simp [D.beq] at h; rw [h]
  | .ktp x, b, h => by cases b <;> simp [D.beq] at h; rw [h]
  | .ref x, b, h => by cases b <;> simp [D.beq] at h; rw [h]
  | .tup xs, b, h => by cases b <;> simp [D.beq] at h; rw [D.beqs_eq h]
  | .lst xs, b, h => by cases b <;> simp [D.beq] at h; rw [D.beqs_eq h]
  | .dct xs, b, h => by cases b <;> simp [D.beq] at h; rw [D.beqs_eq h]
  | .exn c xs, b, h => by cases b <;> simp [D.beq] at h; rw [h.1, D.beqs_eq h.2]
theorem D.beqs_eq : ∀ {a b : List D}, D.beqs a b = true → a = b
  | [], b, h => by cases b <;> simp [D.beqs] at h; rfl
  | x :: xs, b, h => by
    cases b with
    | nil => simp [D.beqs] at h
    | cons y ys => simp [D.beqs] at h; rw [D.beq_eq h.1, D.beqs_eq h.2]
end
theorem stands_at {h : Hq} {w : Watch} (e : stands h w = true) {n : Nat} {ds : List D} (m : (n, ds) ∈ w) : h[n]? = some (.lst ds) := by
  have q := List.all_eq_true.mp e _ m
  dsimp only at q
  split at q
  · rename_i es e1
    rw [e1, D.beqs_eq q]
  · cases q

section
variable {K : PySem.W.Frag} {Fr Fr' ρ ρ' : List Addr} {H H' : Hp} {h : Hq}
mutual
theorem RD.fr (hf : ∀ a ∈ Fr', a ∈ Fr ∨ H a = none) : ∀ (d : D) (v : V), RD K Fr ρ H d v → RD K Fr' ρ H d v
  | .non, _, r => r
  | .bl _, _, r => r
  | .int _, _, r => r
  | .str _, _, r => r
  | .ktp _, _, r => by unfold RD at r ⊢; exact r
  | .ref n, _, r => by unfold RD at r ⊢; exact r
  | .tup ds, _, r => by
    unfold RD at r ⊢
    obtain ⟨a, vs, e, k, n, q⟩ := r
    exact ⟨a, vs, e, k, n, RDs.fr hf ds vs q⟩
  | .lst ds, _, r => by
    unfold RD at r ⊢
    obtain ⟨a, vs, e, k, n, nf, q⟩ := r
    refine ⟨a, vs, e, k, n, fun z => ?_, RDs.fr hf ds vs q⟩
    rcases hf a z with z | z
    · exact nf z
    · rw [k] at z; cases z
  | .scr ns, _, r => by
    unfold RD at r ⊢
    obtain ⟨a, e, k⟩ := r
    refine ⟨a, e, k.imp (fun k => ⟨k.1, fun z => ?_⟩) id⟩
    rcases hf a z with z | z
    · exact k.2 z
    · rcases k.1.1 with q | ⟨o, q⟩ <;> (rw [q] at z; cases z)
  | .dct _, _, r => by unfold RD at r; exact r.elim
  | .exn _ _, _, r => by unfold RD at r; exact r.elim
theorem RDs.fr (hf : ∀ a ∈ Fr', a ∈ Fr ∨ H a = none) : ∀ (ds : List D) (vs : List V), RDs K Fr ρ H ds vs → RDs K Fr' ρ H ds vs
  | [], _, r => r
  | d :: ds, _, r => by
    unfold RDs at r ⊢
    obtain ⟨v, t, e, k, q⟩ := r
    exact ⟨v, t, e, RD.fr hf d v k, RDs.fr hf ds t q⟩
end
theorem SR.fr (hf : ∀ a ∈ Fr', a ∈ Fr ∨ H a = none) {s : Env'} {σ : L2.St} (r : SR K Fr ρ H s σ) : SR K Fr' ρ H s σ :=
  ⟨r.len, fun i d e => let ⟨v, e1, q⟩ := r.get i d e; ⟨v, e1, RD.fr hf d v q⟩⟩
theorem sub_fr (hs : ∀ a ∈ Fr', a ∈ Fr) : ∀ a ∈ Fr', a ∈ Fr ∨ H a = none := fun a ha => .inl (hs a ha)
theorem KR.fr {κ : Type} {kvs : List (κ × D)} {vs : List (κ × V)} (hf : ∀ a ∈ Fr', a ∈ Fr ∨ H a = none) (r : KR K Fr ρ H kvs vs) : KR K Fr' ρ H kvs vs := ⟨r.1, RDs.fr hf _ _ r.2⟩
theorem OR.fr (hf : ∀ a ∈ Fr', a ∈ Fr ∨ H a = none) {o : Ob} {a : Addr} (r : OR K Fr ρ H o a) : OR K Fr' ρ H o a := by
  cases o with
  | lst ds => obtain ⟨vs, e, q⟩ := r; exact ⟨vs, e, RDs.fr hf _ _ q⟩
  | dct ds => obtain ⟨vs, e, q⟩ := r; exact ⟨vs, e, q.fr hf⟩
  | dctT ds => obtain ⟨vs, e, q⟩ := r; exact ⟨vs, e, q.fr hf⟩
  | dctN ds => obtain ⟨vs, e, q⟩ := r; exact ⟨vs, e, q.1, RDs.fr hf _ _ q.2.1, RDs.fr hf _ _ q.2.2⟩
  | ins _ _ => exact r.elim
  | dead => exact r.elim
/-- an object of our own is set aside while it is made -/
theorem HR.aside (r : HR K Fr ρ h H) {p : Addr} {o : HO} (hp : H p = none) (ht : isTb o = false := by rfl) : HR K (p :: Fr) ρ h (upd H p o) := by
  have hf : ∀ a ∈ p :: Fr, a ∈ Fr ∨ H a = none := fun a ha => (List.mem_cons.mp ha).elim (fun e => .inr (e ▸ hp)) .inl
  have r' := r.new (o := o) hp
  refine ⟨r.len, r.nd, fun a ha => ?_, r'.tb, fun a ha z => ?_, fun n u e => ?_⟩
  · rcases List.mem_cons.mp ha with rfl | ha
    · exact ⟨o, upd_same, ht⟩
    · exact r'.fr' a ha
  · rcases List.mem_cons.mp z with rfl | z
    · exact (r.fresh hp).1 ha
    · exact r.dj a ha z
  · obtain ⟨a, e1, q⟩ := r.at' n u e
    obtain ⟨u', e'⟩ := q.tracked
    exact ⟨a, e1, (q.fr hf).mono (ext_new hp) (upd_ne (ne_of_none e' hp))⟩
def _root_.L2.HO.nt : HO → Bool
  | .tup _ => false
  | .frz _ _ => false
  | .tbl _ => false
  | .ext _ => false
  | _ => true
theorem tabS_nt {P : Addr} {q : Str} {a : Addr} {o u : HO} (t : LamX.TabS H P q) (e : H a = some u) (hu : u.nt = true) : LamX.TabS (upd H a o) P q := by
  obtain ⟨ps, h1, h2, h3⟩ := t
  refine ⟨ps, ?_, h2, fun pos cv hc => ?_⟩
  · have : P ≠ a := by rintro rfl; rw [h1] at e; cases e; cases hu
    rw [upd_ne this]; exact h1
  · obtain ⟨c, e1, e2⟩ := h3 pos cv hc
    refine ⟨c, e1, ?_⟩
    have : c ≠ a := by rintro rfl; rw [e2] at e; unfold LamX.CodeO at e; cases e; cases hu
    rw [upd_ne this]; exact e2
mutual
theorem RD.alt {p : Addr} {xs : HO} {o : HO} (hp : p ∈ Fr) (nt : xs.nt = true) (hH : H p = some xs) : ∀ (d : D) (v : V), RD K Fr ρ H d v → RD K Fr ρ (upd H p o) d v
  | .non, _, r => r
  | .bl _, _, r => r
  | .int _, _, r => r
  | .str _, _, r => r
  | .ktp _, _, r => by
    unfold RD at r ⊢
    obtain ⟨a, e, k⟩ := r
    refine ⟨a, e, k.imp (fun k => ⟨?_, k.2⟩) id⟩
    obtain ⟨o', k1, d⟩ := k.1
    exact ⟨o', by rw [upd_ne (ne_of k1 hH (by intro z; cases z; cases nt))]; exact k1, d⟩
  | .ref n, _, r => by unfold RD at r ⊢; exact r
  | .tup ds, _, r => by
    unfold RD at r ⊢
    obtain ⟨a, vs, e, k, n, q⟩ := r
    exact ⟨a, vs, e, by rw [upd_ne (ne_of k hH (by intro z; cases z; cases nt))]; exact k, n, RDs.alt hp nt hH ds vs q⟩
  | .lst ds, _, r => by
    unfold RD at r ⊢
    obtain ⟨a, vs, e, k, n, nf, q⟩ := r
    have hne : a ≠ p := fun z => nf (z ▸ hp)
    exact ⟨a, vs, e, by rw [upd_ne hne]; exact k, n, nf, RDs.alt hp nt hH ds vs q⟩
  | .scr ns, _, r => by
    unfold RD at r ⊢
    obtain ⟨a, e, k⟩ := r
    refine ⟨a, e, k.imp (fun k => ⟨⟨?_, k.1.2⟩, k.2⟩) id⟩
    have hne : a ≠ p := fun z => k.2 (z ▸ hp)
    rcases k.1.1 with q | ⟨o', q⟩
    · exact .inl (by rw [upd_ne hne]; exact q)
    · exact .inr ⟨o', by rw [upd_ne hne]; exact q⟩
  | .dct _, _, r => by unfold RD at r; exact r.elim
  | .exn _ _, _, r => by unfold RD at r; exact r.elim
theorem RDs.alt {p : Addr} {xs : HO} {o : HO} (hp : p ∈ Fr) (nt : xs.nt = true) (hH : H p = some xs) : ∀ (ds : List D) (vs : List V), RDs K Fr ρ H ds vs → RDs K Fr ρ (upd H p o) ds vs
  | [], _, r => r
  | d :: ds, _, r => by
    unfold RDs at r ⊢
    obtain ⟨v, t, e, k, q⟩ := r
    exact ⟨v, t, e, RD.alt hp nt hH d v k, RDs.alt hp nt hH ds t q⟩
end
theorem KR.alt {κ : Type} {kvs : List (κ × D)} {vs : List (κ × V)} {p : Addr} {xs : HO} {o : HO} (hp : p ∈ Fr) (nt : xs.nt = true) (hH : H p = some xs) (r : KR K Fr ρ H kvs vs) : KR K Fr ρ (upd H p o) kvs vs := ⟨r.1, RDs.alt hp nt hH _ _ r.2⟩
theorem HR.alt (r : HR K Fr ρ h H) {p : Addr} {xs : HO} {o : HO} (hp : p ∈ Fr) (nt : xs.nt = true) (hH : H p = some xs) (ht : isTb o = false := by rfl) : HR K Fr ρ h (upd H p o) := by
  refine ⟨r.len, r.nd, fun a ha => ?_, fun P q l => tabS_nt (r.tb P q l) hH nt, r.dj, fun n u e => ?_⟩
  · by_cases e : a = p
    · rw [e]; exact ⟨o, upd_same, ht⟩
    · obtain ⟨u, q, t⟩ := r.fr' a ha
      exact ⟨u, by rw [upd_ne e]; exact q, t⟩
  · obtain ⟨a, e1, q⟩ := r.at' n u e
    have hne : a ≠ p := fun z => r.dj a (List.mem_of_getElem? e1) (z ▸ hp)
    refine ⟨a, e1, ?_⟩
    cases u with
    | lst ds => obtain ⟨vs, e, q⟩ := q; exact ⟨vs, by rw [upd_ne hne]; exact e, RDs.alt hp nt hH _ _ q⟩
    | dct ds => obtain ⟨vs, e, q⟩ := q; exact ⟨vs, by rw [upd_ne hne]; exact e, q.alt hp nt hH⟩
    | dctT ds => obtain ⟨vs, e, q⟩ := q; exact ⟨vs, by rw [upd_ne hne]; exact e, q.alt hp nt hH⟩
    | dctN ds => obtain ⟨vs, e, q⟩ := q; exact ⟨vs, by rw [upd_ne hne]; exact e, q.1, RDs.alt hp nt hH _ _ q.2.1, RDs.alt hp nt hH _ _ q.2.2⟩
    | ins _ _ => exact q.elim
    | dead => exact q.elim
/-- no longer set aside -/
theorem HR.back (r : HR K Fr ρ h H) (hs : ∀ a ∈ Fr', a ∈ Fr) : HR K Fr' ρ h H :=
  ⟨r.len, r.nd, fun a ha => r.fr' a (hs a ha), r.tb, fun a ha z => r.dj a ha (hs a z), fun n u e => let ⟨a, e1, q⟩ := r.at' n u e; ⟨a, e1, q.fr (sub_fr hs)⟩⟩
mutual
theorem RD.own {p : Addr} {xs : HO} (hp : p ∈ Fr) (nt : xs.nt = true) (hH : H p = some xs) : ∀ (d : D) (v : V), RD K Fr ρ H d v → RD K Fr (ρ ++ [p]) H d v
  | .non, _, r => r
  | .bl _, _, r => r
  | .int _, _, r => r
  | .str _, _, r => r
  | .ktp _, _, r => by
    unfold RD at r ⊢
    obtain ⟨a, e, k⟩ := r
    refine ⟨a, e, k.imp (fun k => ⟨k.1, fun z => ?_⟩) id⟩
    rcases List.mem_append.mp z with z | z
    · exact k.2 z
    · obtain ⟨o', k1, d⟩ := k.1
      exact ne_of k1 hH (by intro z; cases z; cases nt) (List.mem_singleton.mp z)
  | .ref n, _, r => by
    unfold RD at r ⊢
    obtain ⟨a, e, k⟩ := r
    exact ⟨a, e, by rw [List.getElem?_append_left (List.getElem?_eq_some_iff.mp k).1]; exact k⟩
  | .tup ds, _, r => by
    unfold RD at r ⊢
    obtain ⟨a, vs, e, k, n, q⟩ := r
    refine ⟨a, vs, e, k, fun z => ?_, RDs.own hp nt hH ds vs q⟩
    rcases List.mem_append.mp z with z | z
    · exact n z
    · exact ne_of k hH (by intro z; cases z; cases nt) (List.mem_singleton.mp z)
  | .lst ds, _, r => by
    unfold RD at r ⊢
    obtain ⟨a, vs, e, k, n, nf, q⟩ := r
    refine ⟨a, vs, e, k, fun z => ?_, nf, RDs.own hp nt hH ds vs q⟩
    rcases List.mem_append.mp z with z | z
    · exact n z
    · rw [List.mem_singleton] at z; exact nf (z ▸ hp)
  | .scr ns, _, r => by
    unfold RD at r ⊢
    obtain ⟨a, e, k⟩ := r
    refine ⟨a, e, k.imp (fun k => ⟨⟨k.1.1, fun z => ?_⟩, k.2⟩) id⟩
    rcases List.mem_append.mp z with z | z
    · exact k.1.2 z
    · rw [List.mem_singleton] at z; exact k.2 (z ▸ hp)
  | .dct _, _, r => by unfold RD at r; exact r.elim
  | .exn _ _, _, r => by unfold RD at r; exact r.elim
theorem RDs.own {p : Addr} {xs : HO} (hp : p ∈ Fr) (nt : xs.nt = true) (hH : H p = some xs) : ∀ (ds : List D) (vs : List V), RDs K Fr ρ H ds vs → RDs K Fr (ρ ++ [p]) H ds vs
  | [], _, r => r
  | d :: ds, _, r => by
    unfold RDs at r ⊢
    obtain ⟨v, t, e, k, q⟩ := r
    exact ⟨v, t, e, RD.own hp nt hH d v k, RDs.own hp nt hH ds t q⟩
end
/-- what was made aside comes to be a cell -/
theorem OR.own {p : Addr} {xs : HO} (hp : p ∈ Fr) (nt : xs.nt = true) (hH : H p = some xs) {o : Ob} {a : Addr} (r : OR K Fr ρ H o a) : OR K Fr (ρ ++ [p]) H o a := by
  cases o with
  | lst ds => obtain ⟨vs, e, q⟩ := r; exact ⟨vs, e, RDs.own hp nt hH _ _ q⟩
  | dct ds => obtain ⟨vs, e, q⟩ := r; exact ⟨vs, e, q.1, RDs.own hp nt hH _ _ q.2⟩
  | dctT ds => obtain ⟨vs, e, q⟩ := r; exact ⟨vs, e, q.1, RDs.own hp nt hH _ _ q.2⟩
  | dctN ds => obtain ⟨vs, e, q⟩ := r; exact ⟨vs, e, q.1, RDs.own hp nt hH _ _ q.2.1, RDs.own hp nt hH _ _ q.2.2⟩
  | ins _ _ => exact r.elim
  | dead => exact r.elim
theorem HR.ownO {p : Addr} {b : Ob} {xs : HO} (r : HR K (p :: Fr) ρ h H) (hf : p ∉ Fr) (nt : xs.nt = true) (hH : H p = some xs) (q : OR K (p :: Fr) ρ H b p) : HR K Fr (ρ ++ [p]) (h ++ [b]) H := by
  have hpF : p ∈ p :: Fr := List.mem_cons_self
  have hs : ∀ a ∈ Fr, a ∈ p :: Fr := fun a ha => List.mem_cons_of_mem _ ha
  have hpρ : p ∉ ρ := fun z => r.dj p z hpF
  refine ⟨by simp [r.len], ?_, fun a ha => r.fr' a (hs a ha), r.tb, fun a ha => ?_, fun n u e => ?_⟩
  · rw [List.nodup_append]
    exact ⟨r.nd, by simp, fun a ha b hb => by rw [List.mem_singleton] at hb; subst hb; rintro rfl; exact hpρ ha⟩
  · rcases List.mem_append.mp ha with z | z
    · exact fun y => r.dj a z (hs a y)
    · rw [List.mem_singleton] at z; subst z; exact hf
  · by_cases hn : n < h.length
    · rw [List.getElem?_append_left hn] at e
      obtain ⟨a, e1, q1⟩ := r.at' n u e
      exact ⟨a, by rw [List.getElem?_append_left (List.getElem?_eq_some_iff.mp e1).1]; exact e1, (OR.own hpF nt hH q1).fr (sub_fr hs)⟩
    · have hn' : n = h.length := by
        have := (List.getElem?_eq_some_iff.mp e).1
        simp at this; omega
      subst hn'
      rw [List.getElem?_append_right (Nat.le_refl _)] at e
      simp at e; subst e
      refine ⟨p, ?_, (OR.own hpF nt hH q).fr (sub_fr hs)⟩
      rw [← r.len, List.getElem?_append_right (Nat.le_refl _)]; simp
theorem HR.own {p : Addr} {ds : List D} {vs : List V} (r : HR K (p :: Fr) ρ h H) (hf : p ∉ Fr) (hH : H p = some (.lst vs)) (q : RDs K (p :: Fr) ρ H ds vs) : HR K Fr (ρ ++ [p]) (h ++ [.lst ds]) H :=
  r.ownO hf rfl hH ⟨vs, hH, q⟩
end

/-! ### what is walked -/
/-- the walk J goes through xs, while the cells of w stand -/
def IW (K : PySem.W.Frag) (Fr : List Addr) (J : L2.It) (ρ0 : List Addr) (H0 : Hp) (xs : List D) (w : Watch) : Prop :=
  ∀ Fr' i ρ H h, (∀ a ∈ Fr', a ∈ Fr ∨ H0 a = none) → Ext ρ0 H0 ρ H → HR K Fr' ρ h H → stands h w = true →
    (∀ d, xs[i]? = some d → J.go i H ∧ ∀ x H', J.yld i H x H' → Ext ρ H ρ H' ∧ HR K Fr' ρ h H' ∧ RD K Fr' ρ H' d x ∧ ∀ a o, H a = some o → H' a = some o) ∧ (i = xs.length → J.stop i H)
def TIk (K : PySem.W.Frag) (W : EK K) (f : Env' → Hq → R Its') : TI := fun σ H R => ∃ Fr ρ s h, HR K Fr ρ h H ∧ SR K Fr ρ H s σ ∧
  okR (fun p => ∀ J ρ' H', Ext ρ H ρ' H' → HR K Fr ρ' p.2.2 H' → IW K Fr J ρ' H' p.1 p.2.1 → R J H') (W.p Fr ρ H σ) (f s h)
def SI (X : Cx) (W : EK X.K) (tg it : Expr) (f : Env' → Hq → R Its') : Prop := PI X tg it (TIk X.K W f)
section
variable {X : Cx} {W : EK X.K} {tg : Expr}
theorem PI.imp {it : Expr} {t t' : TI} (h : PI X tg it t) (i : ∀ σ H Q, t' σ H Q → t σ H Q) : PI X tg it t' := ⟨fun pins s σ H Q I q => h.run pins s σ H Q I (i _ _ _ q)⟩
theorem PI.or {it : Expr} {t t' : TI} (h : PI X tg it t) (h' : PI X tg it t') : PI X tg it (fun σ H R => t σ H R ∨ t' σ H R) := ⟨fun pins s σ H Q I q => q.elim (fun q => h.run pins s σ H Q I q) fun q => h'.run pins s σ H Q I q⟩
/-- a list that stays, one that stands as a cell, a tuple -/
theorem iw_list {K : PySem.W.Frag} {Fr ρ0 : List Addr} {H0 : Hp} {a : Addr} {xs : List D} {w : Watch}
    (at' : ∀ Fr' ρ H h, (∀ a ∈ Fr', a ∈ Fr ∨ H0 a = none) → Ext ρ0 H0 ρ H → HR K Fr' ρ h H → stands h w = true → ∃ vs, SqL K H a vs ∧ RDs K Fr' ρ H xs vs) : IW K Fr (Itl K a) ρ0 H0 xs w := by
  intro Fr' i ρ H h hf x r st
  obtain ⟨vs, s, q⟩ := at' Fr' ρ H h hf x r st
  refine ⟨fun d e => ?_, fun e => ⟨vs, s, by rw [← q.length, e]; exact Nat.le_refl _⟩⟩
  obtain ⟨v, e1, k⟩ := q.get e
  refine ⟨⟨vs, v, s, e1⟩, fun y H' hy => ?_⟩
  obtain ⟨e2, hy⟩ := hy
  subst e2
  have e3 := hy vs s
  rw [e1] at e3
  cases e3
  exact ⟨.refl, r, k, fun _ _ e => e⟩
theorem iw_tup {K : PySem.W.Frag} {Fr ρ0 : List Addr} {H0 : Hp} {a : Addr} {xs : List D} {w : Watch}
    (at' : ∀ Fr' ρ H h, (∀ a ∈ Fr', a ∈ Fr ∨ H0 a = none) → Ext ρ0 H0 ρ H → HR K Fr' ρ h H → stands h w = true → ∃ vs, SqT K H a vs ∧ RDs K Fr' ρ H xs vs) : IW K Fr (Itt K a) ρ0 H0 xs w := by
  intro Fr' i ρ H h hf x r st
  obtain ⟨vs, s, q⟩ := at' Fr' ρ H h hf x r st
  refine ⟨fun d e => ?_, fun e => ⟨vs, s, by rw [← q.length, e]; exact Nat.le_refl _⟩⟩
  obtain ⟨v, e1, k⟩ := q.get e
  refine ⟨⟨vs, v, s, e1⟩, fun y H' hy => ?_⟩
  obtain ⟨e2, hy⟩ := hy
  subst e2
  have e3 := hy vs s
  rw [e1] at e3
  cases e3
  exact ⟨.refl, r, k, fun _ _ e => e⟩
/-- the sequence d, later: as a list or as a tuple -/
theorem lst_later {K : PySem.W.Frag} {Fr ρ0 : List Addr} {H0 : Hp} {h0 : Hq} (r0 : HR K Fr ρ0 h0 H0) {d : D} {v : V} {xs : List D} (k : RD K Fr ρ0 H0 d v) (e : itemsOf h0 d = some xs) (nt : isTupD d = false) :
    ∃ a, v = .ref a ∧ (∃ vs, SqL K H0 a vs) ∧ ∀ w Fr' ρ H h, (∀ p ∈ watchOf d xs, p ∈ w) → (∀ a ∈ Fr', a ∈ Fr ∨ H0 a = none) → Ext ρ0 H0 ρ H → HR K Fr' ρ h H → stands h w = true → ∃ vs, SqL K H a vs ∧ RDs K Fr' ρ H xs vs := by
  cases d with
  | tup ds => cases nt
  | ktp ns => cases nt
  | lst ds =>
    cases e
    obtain ⟨a, vs, rfl, s0, _⟩ := k.sqL
    refine ⟨a, rfl, ⟨vs, .of s0⟩, fun w Fr' ρ H h hw hf x r st => ?_⟩
    obtain ⟨b, ws, e1, s, q⟩ := (RD.mono x _ _ (RD.fr hf _ _ k)).sqL
    cases e1
    exact ⟨ws, .of s, q⟩
  | scr ns =>
    obtain ⟨a, vs, rfl, s0, _⟩ := r0.sql k (show sqlOf h0 (.scr ns) = some xs from e)
    refine ⟨a, rfl, ⟨vs, s0⟩, fun w Fr' ρ H h hw hf x r st => ?_⟩
    obtain ⟨b, ws, e1, s, q⟩ := r.sql (RD.mono x _ _ (RD.fr hf _ _ k)) (show sqlOf h (.scr ns) = some xs from e)
    cases e1
    exact ⟨ws, s, q⟩
  | ref n =>
    have hn0 : h0[n]? = some (.lst xs) := by
      dsimp only [itemsOf] at e
      split at e
      · rename_i hn; cases e; exact hn
      · cases e
    obtain ⟨a, vs, rfl, _, s0, _⟩ := r0.lst k hn0
    refine ⟨a, rfl, ⟨vs, .of s0⟩, fun w Fr' ρ H h hw hf x r st => ?_⟩
    have hn := stands_at st (n := n) (ds := xs) (hw _ List.mem_cons_self)
    obtain ⟨b, ws, e1, _, s, q⟩ := r.lst (RD.mono x _ _ (RD.fr hf _ _ k)) hn
    cases e1
    exact ⟨ws, .of s, q⟩
  | _ => cases e
theorem tup_later {K : PySem.W.Frag} {Fr ρ0 : List Addr} {H0 : Hp} {h0 : Hq} {d : D} {v : V} {xs : List D} (k : RD K Fr ρ0 H0 d v) (e : itemsOf h0 d = some xs) (nt : isTupD d = true) :
    ∃ a, v = .ref a ∧ (∃ vs, SqT K H0 a vs) ∧ ∀ Fr' ρ H h, (∀ a ∈ Fr', a ∈ Fr ∨ H0 a = none) → Ext ρ0 H0 ρ H → HR K Fr' ρ h H → ∃ vs, SqT K H a vs ∧ RDs K Fr' ρ H xs vs := by
  cases d with
  | tup ds =>
    cases e
    obtain ⟨a, vs, rfl, s0, _⟩ := k.tupl
    refine ⟨a, rfl, ⟨vs, .of s0⟩, fun Fr' ρ H h hf x r => ?_⟩
    obtain ⟨b, ws, e1, s, q⟩ := (RD.mono x _ _ (RD.fr hf _ _ k)).sqT
    cases e1
    exact ⟨ws, s, q⟩
  | ktp ns =>
    cases e
    unfold RD at k
    obtain ⟨a, rfl, k⟩ := k
    exact ⟨a, rfl, ⟨_, k.sqT⟩, fun Fr' ρ H h hf x r => ⟨_, (k.mono x).sqT, RDs.of_ints _⟩⟩
  | _ => cases nt
theorem itD_seq {d : D} {h : Hq} {p : Its'} (e : itD d h = some p) (ns : isStrD d = false) : ∃ xs, itemsOf h d = some xs ∧ p = (xs, watchOf d xs, h) := by
  unfold itD at e
  split at e
  · split at e
    · rename_i n ds hn
      cases e
      exact ⟨ds, by dsimp only [itemsOf]; rw [hn], rfl⟩
    · cases e
  · cases ns
  · split at e
    · rename_i hn _ _ ds hd
      cases e
      refine ⟨ds, hd, ?_⟩
      cases d <;> first | rfl | (exact absurd rfl (hn _))
    · cases e
/-- e, a list or a tuple or a text -/
theorem si_ex {e : Expr} {fe : Env' → Hq → R (D × Hq)} (he : SE X W e fe) : SI X W tg e (fun s h => (fe s h).bind fun p => lift (itD p.1 p.2)) := by
  refine PI.imp (PI.or (pi_list he) (PI.or (pi_tup he) (pi_str he))) fun σ H Rr ⟨Fr, ρ, s, h, r, sr, ok⟩ => ?_
  dsimp only at ok
  cases e1 : fe s h with
  | stuck => rw [e1] at ok; exact ok.elim
  | exc a b => rw [e1] at ok; exact .inl ⟨Fr, ρ, s, h, r, sr, by rw [e1]; exact ok⟩
  | ok p =>
    rw [e1] at ok
    obtain ⟨q, e2, k⟩ := okR_lift (show okR _ _ (lift (itD p.1 p.2)) from ok)
    cases hs : isStrD p.1 with
    | true =>
      refine .inr (.inr ⟨Fr, ρ, s, h, r, sr, ?_⟩)
      rw [e1]
      intro v ρ1 H1 x1 r1 d1
      obtain ⟨p1, p2⟩ := p
      dsimp only at hs
      cases p1 with
      | str z =>
        unfold itD at e2
        cases e2
        refine ⟨z, rd_str.mp d1, k _ ρ1 H1 x1 r1 ?_⟩
        intro Fr' i ρ2 H2 h2 hf x r st
        refine ⟨fun d e => ?_, fun e => ?_⟩
        · obtain ⟨c, hc, rfl⟩ : ∃ c, z.cps.toList[i]? = some c ∧ d = .str ⟨#[c]⟩ := by
            rw [List.getElem?_map] at e
            obtain ⟨c, h1, h2⟩ := Option.map_eq_some_iff.mp e
            exact ⟨c, h1, h2.symm⟩
          have hi : i < z.cps.size := by have := (List.getElem?_eq_some_iff.mp hc).1; simpa using this
          refine ⟨hi, fun y H' hy => ?_⟩
          obtain ⟨e3, c', hc', e4⟩ := hy
          subst e3 e4
          have : c' = c := by
            rw [Array.getElem?_toList] at hc
            rw [hc] at hc'; cases hc'; rfl
          subst this
          exact ⟨.refl, r, rd_str.mpr rfl, fun _ _ e => e⟩
        · show z.cps.size ≤ i
          rw [e]; simp
      | _ => cases hs
    | false =>
      obtain ⟨xs, e3, e4⟩ := itD_seq e2 hs
      subst e4
      cases ht : isTupD p.1 with
      | false =>
        refine .inl ⟨Fr, ρ, s, h, r, sr, ?_⟩
        rw [e1]
        intro v ρ1 H1 x1 r1 d1
        obtain ⟨a, e5, e6, e7⟩ := lst_later r1 d1 e3 ht
        exact ⟨a, e5, e6, k _ ρ1 H1 x1 r1 (iw_list fun Fr' ρ H h hf x r st => e7 _ Fr' ρ H h (fun _ m => m) hf x r st)⟩
      | true =>
        refine .inr (.inl ⟨Fr, ρ, s, h, r, sr, ?_⟩)
        rw [e1]
        intro v ρ1 H1 x1 r1 d1
        obtain ⟨a, e5, e6, e7⟩ := tup_later d1 e3 ht
        exact ⟨a, e5, e6, k _ ρ1 H1 x1 r1 (iw_tup fun Fr' ρ H h hf x r st => e7 Fr' ρ H h hf x r)⟩
theorem iw_range {K : PySem.W.Frag} {Fr ρ0 : List Addr} {H0 : Hp} {lo hi : Int} : IW K Fr (Itr lo (hi - lo).toNat) ρ0 H0 (rangeL lo hi) [] := by
  intro Fr' i ρ H h hf x r st
  refine ⟨fun d e => ?_, fun e => ?_⟩
  · unfold rangeL at e
    rw [List.getElem?_map] at e
    obtain ⟨c, h1, h2⟩ := Option.map_eq_some_iff.mp e
    have hc : i < (hi - lo).toNat ∧ c = i := by
      obtain ⟨h3, h4⟩ := List.getElem?_eq_some_iff.mp h1
      simp at h3 h4
      exact ⟨by omega, h4.symm⟩
    refine ⟨hc.1, fun y H' hy => ?_⟩
    obtain ⟨e3, e4⟩ := hy
    subst e3 e4
    rw [← h2, hc.2]
    exact ⟨.refl, r, rd_int.mpr rfl, fun _ _ e => e⟩
  · show (hi - lo).toNat ≤ i
    rw [e]; unfold rangeL; simp
theorem si_range1 {e : Expr} {p pos : Pos} {fe : Env' → Hq → R (D × Hq)} (hg : Gl X "range") (hm : X.mg "range" = none) (he : SE X W e fe) (hs : starEach [e] X.env = [(false, eval e X.env)]) : SI X W tg (.Call (.Name "range" p) [e] [] pos) (fun s h => (fe s h).bind fun p => lift (rng1D p.1 p.2)) := by
  refine PI.imp (pi_range1 hg hm (pa_cons he pa_nil (by rw [hs]; rfl)) hs) fun σ H Rr ⟨Fr, ρ, s, h, r, sr, ok⟩ => ?_
  refine ⟨Fr, ρ, s, h, r, sr, (okR_bind.mp ok).mono (fun p q v ρ1 H1 x1 r1 d1 => ?_) fun _ _ z => z⟩
  obtain ⟨y, e, k⟩ := okR_lift q
  obtain ⟨p1, p2⟩ := p
  dsimp only at e d1
  unfold rng1D at e
  split at e
  · rename_i j
    split at e
    · rename_i hj
      cases e
      refine ⟨j, by rw [rd_int.mp d1], hj.1, hj.2, k _ ρ1 H1 x1 r1 ?_⟩
      have := iw_range (K := X.K) (Fr := Fr) (ρ0 := ρ1) (H0 := H1) (lo := 0) (hi := j)
      simpa using this
    · cases e
  · cases e
end
end FF

/-! FFSE8: targets; comprehensions. -/
namespace FF
open PySem PySem.Spec PyProof.Rows L2

mutual
def Tg.slots : Tg → List Nat
  | .name i => [i]
  | .tup ts => Tgs.slots ts
def Tgs.slots : Tgs → List Nat
  | .nil => []
  | .cons t ts => Tg.slots t ++ Tgs.slots ts
end
theorem wipe_set {vs : List Nat} {i : Nat} {x : Option V} (hi : i ∈ vs) : ∀ (σ : L2.St), wipe (σ.set i x) vs = wipe σ vs := by
  intro σ
  induction vs with
  | nil => cases hi
  | cons v vs ih =>
    unfold wipe
    by_cases e : i ∈ vs
    · rw [ih e]
    · have : i = v := by rcases List.mem_cons.mp hi with h | h; exact h; exact absurd h e
      subst this
      clear ih hi
      have key : ∀ vs : List Nat, i ∉ vs → wipe (σ.set i x) vs = (wipe σ vs).set i x := by
        intro vs
        induction vs with
        | nil => intro _; rfl
        | cons w ws ih =>
          intro h
          unfold wipe
          rw [List.mem_cons, not_or] at h
          rw [ih h.2, List.set_comm _ _ (fun z => h.1 z)]
      rw [key vs e]
      simp
theorem wipe_comm {vs : List Nat} {i : Nat} (σ : L2.St) : wipe (σ.set i none) vs = (wipe σ vs).set i none := by
  induction vs with
  | nil => rfl
  | cons v vs ih =>
    unfold wipe
    rw [ih]
    by_cases e : v = i
    · rw [e]
    · rw [List.set_comm _ _ (fun z => e z.symm)]
theorem wipe_idem (σ : L2.St) : ∀ vs : List Nat, wipe (wipe σ vs) vs = wipe σ vs := by
  intro vs
  induction vs with
  | nil => rfl
  | cons v vs ih =>
    show (wipe ((wipe σ vs).set v none) vs).set v none = (wipe σ vs).set v none
    rw [wipe_comm, ih]
    simp
section
variable {K : PySem.W.Frag} {Fr ρ : List Addr} {H : Hp}
theorem SR.set {s : Env'} {σ : L2.St} {i : Nat} {d : D} {v : V} (r : SR K Fr ρ H s σ) (k : RD K Fr ρ H d v) : SR K Fr ρ H (s.set i (some d)) (σ.set i (some v)) := by
  refine ⟨by simp [r.len], fun j e h => ?_⟩
  by_cases hj : i = j
  · subst hj
    have hl : i < s.length := by have := (List.getElem?_eq_some_iff.mp h).1; simpa using this
    rw [List.getElem?_set_self hl] at h
    cases h
    exact ⟨v, List.getElem?_set_self (by rw [← r.len]; exact hl), k⟩
  · rw [List.getElem?_set_ne hj] at h
    obtain ⟨w, e1, q⟩ := r.get j e h
    exact ⟨w, by rw [List.getElem?_set_ne hj]; exact e1, q⟩
theorem SR.unset {s : Env'} {σ : L2.St} {i : Nat} (r : SR K Fr ρ H s σ) : SR K Fr ρ H (s.set i none) (σ.set i none) := by
  refine ⟨by simp [r.len], fun j e h => ?_⟩
  by_cases hj : i = j
  · subst hj
    have hl : i < s.length := by have := (List.getElem?_eq_some_iff.mp h).1; simpa using this
    rw [List.getElem?_set_self hl] at h
    cases h
  · rw [List.getElem?_set_ne hj] at h
    obtain ⟨w, e1, q⟩ := r.get j e h
    exact ⟨w, by rw [List.getElem?_set_ne hj]; exact e1, q⟩
theorem SR.wipe {s : Env'} {σ : L2.St} (r : SR K Fr ρ H s σ) : ∀ vs : List Nat, SR K Fr ρ H (wipe' s vs) (L2.wipe σ vs)
  | [] => r
  | v :: vs => SR.unset (SR.wipe r vs)
end
/-- the old slots but those of a target -/
def Only' (σ σ' : L2.St) (is : List Nat) : Prop := ∀ vs : List Nat, (∀ i ∈ is, i ∈ vs) → L2.wipe σ' vs = L2.wipe σ vs
def TGk (K : PySem.W.Frag) (c : Tg) : TG := fun v σ H Q => ∃ Fr ρ h s d s', HR K Fr ρ h H ∧ SR K Fr ρ H s σ ∧ RD K Fr ρ H d v ∧ asg c d s = some s' ∧ ∀ σ', SR K Fr ρ H s' σ' → Only' σ σ' c.slots → Q σ' H
def TGks (K : PySem.W.Frag) (c : Tgs) : TGs := fun vs σ H Q => ∃ Fr ρ h s ds s', HR K Fr ρ h H ∧ SR K Fr ρ H s σ ∧ RDs K Fr ρ H ds vs ∧ asgs c ds s = some s' ∧ ∀ σ', SR K Fr ρ H s' σ' → Only' σ σ' c.slots → Q σ' H
def SG (X : Cx) (tg : Expr) (c : Tg) : Prop := PG X tg (TGk X.K c)
def SGs (X : Cx) (tgs : List Expr) (c : Tgs) : Prop := PGs X tgs (TGks X.K c)
section
variable {X : Cx} {W : EK X.K}
theorem PG.imp {e : Expr} {t t' : TG} (h : PG X e t) (i : ∀ v σ H Q, t' v σ H Q → t v σ H Q) : PG X e t' := ⟨fun pins s σ H v u Q I r q => h.run pins s σ H v u Q I r (i _ _ _ _ q)⟩
theorem PGs.imp {e : List Expr} {t t' : TGs} (h : PGs X e t) (i : ∀ v σ H Q, t' v σ H Q → t v σ H Q) : PGs X e t' := ⟨fun pins s σ H v u Q I r q => h.run pins s σ H v u Q I r (i _ _ _ _ q)⟩
theorem sg_name {x : Str} {pos : Pos} {i : Nat} (hN : X.N.Nodup) (hi : X.N[i]? = some x) (hx : Loc X.env.scope x) (hf : X.fn x = true ∨ X.env.scope.names.lookup x = some .local) : SG X (.Name x pos) (.name i) := by
  refine PG.imp (pg_name hN hi hx hf) fun v σ H Q ⟨Fr, ρ, h, s, d, s', r, sr, k, e, q⟩ => ?_
  unfold asg at e
  split at e
  · cases e
    exact q _ (sr.set k) fun vs hv => wipe_set (hv i List.mem_cons_self) σ
  · cases e
theorem sgs_nil : SGs X [] .nil := by
  refine PGs.imp pgs_nil fun vs σ H Q ⟨Fr, ρ, h, s, ds, s', r, sr, k, e, q⟩ => ?_
  cases ds with
  | nil =>
    unfold asgs at e
    cases e
    unfold RDs at k
    exact ⟨k, q σ sr fun _ _ => rfl⟩
  | cons _ _ => unfold asgs at e; cases e
theorem sgs_cons {e : Expr} {es : List Expr} {c : Tg} {cs : Tgs} (h1 : SG X e c) (h2 : SGs X es cs) (hs : (assignEach (e :: es) X.env).map (·.2) = assign e X.env :: (assignEach es X.env).map (·.2)) : SGs X (e :: es) (.cons c cs) := by
  refine PGs.imp (pgs_cons h1 h2 hs) fun vs σ H Q ⟨Fr, ρ, h, s, ds, s', r, sr, k, e, q⟩ => ?_
  cases ds with
  | nil => unfold asgs at e; cases e
  | cons d ds =>
    unfold asgs at e
    split at e
    · rename_i s1 e1
      unfold RDs at k
      obtain ⟨v, t, rfl, k1, k2⟩ := k
      refine ⟨v, t, rfl, Fr, ρ, h, s, d, s1, r, sr, k1, e1, fun σ1 sr1 o1 => ?_⟩
      refine ⟨Fr, ρ, h, s1, ds, s', r, sr1, k2, e, fun σ2 sr2 o2 => q σ2 sr2 fun vs hv => ?_⟩
      rw [o2 vs fun i hi => hv i (List.mem_append_right _ hi)]
      exact o1 vs fun i hi => hv i (List.mem_append_left _ hi)
    · cases e
def Tgs.len : Tgs → Nat
  | .nil => 0
  | .cons _ ts => ts.len + 1
theorem asgs_length : ∀ {c : Tgs} {ds : List D} {s s' : Env'}, asgs c ds s = some s' → ds.length = c.len
  | .nil, [], _, _, _ => rfl
  | .nil, _ :: _, _, _, e => by unfold asgs at e; cases e
  | .cons _ _, [], _, _, e => by unfold asgs at e; cases e
  | .cons t ts, d :: ds, s, s', e => by
    unfold asgs at e
    split at e
    · unfold Tgs.len; rw [List.length_cons, asgs_length e]
    · cases e
theorem sg_tup {es : List Expr} {k : Nat} {pos : Pos} {cs : Tgs} (hc : X.calm = true) (h : SGs X es cs) (hn : (assignEach es X.env).length = cs.len) (hst : (assignEach es X.env).findIdx? (·.1) = none) : SG X (.Tuple es k pos) (.tup cs) := by
  refine PG.imp (pg_tup hc h hn hst) fun v σ H Q ⟨Fr, ρ, h, s, d, s', r, sr, k, e, q⟩ => ?_
  cases d with
  | tup ds =>
    unfold asg at e
    dsimp only at e
    obtain ⟨a, vs, rfl, st, rs⟩ := k.sqT
    exact ⟨a, vs, rfl, st, by rw [← rs.length]; exact asgs_length e, Fr, ρ, h, s, ds, s', r, sr, rs, e, q⟩
  | _ => unfold asg at e; cases e

/-! ### comprehensions -/
def STs (X : Cx) (W : EK X.K) (ifs : List Expr) (f : Env' → Hq → R (Bool × Hq)) : Prop := PTs X ifs (TTk X.K W f)
theorem PTs.imp {e : List Expr} {t t' : TT} (h : PTs X e t) (i : ∀ σ H Q, t' σ H Q → t σ H Q) : PTs X e t' := ⟨fun pins s σ H Q I q => h.run pins s σ H Q I (i _ _ _ q)⟩
theorem sts_nil : STs X W [] (fun _ h => .ok (true, h)) := PTs.imp pts_nil fun σ H Q ⟨Fr, ρ, s, h, r, sr, ok⟩ => ok ρ H .refl r
theorem sts_one {c : Expr} {f : Env' → Hq → R (Bool × Hq)} (h : ST X W c f) : STs X W [c] f := pts_one h
def compD (live : Bool) (c : Tg) (own : List Nat) (fi : Env' → Hq → R Its') (ft : Env' → Hq → R (Bool × Hq)) (fe : Env' → Hq → R (D × Hq)) : Env' → Hq → R (D × Hq) := fun s h =>
  (fi s h).bind fun p => (turns p.2.1 (fun x h => match asg c x (wipe' s own) with
    | some s' => hush ((ft s' h).bind fun b => if b.1 then (fe s' b.2).bind fun y => .ok (some y.1, y.2) else .ok (none, b.2))
    | none => .stuck) p.1 [] p.2.2).bind fun q => lift (mkL live q.1 q.2)
theorem okR_hush {α : Type} {P : α → Prop} {E E' : D → Hq → Prop} {r : R α} (h : okR P E (hush r)) : okR P E' r := by
  cases r with
  | ok a => exact h
  | exc _ _ => exact h.elim
  | stuck => exact h.elim
theorem Ext.alt {ρ ρ' : List Addr} {H H' : Hp} {p : Addr} {o : HO} (x : Ext ρ H ρ' H') (hp : H p = none) : Ext ρ H ρ' (upd H' p o) :=
  ⟨x.more, fun a u n e t => by rw [upd_ne (ne_of_none e hp)]; exact x.keep a u n e t⟩
theorem comp_t {c : Tg} {own : List Nat} {live : Bool} {fi : Env' → Hq → R Its'} {ft : Env' → Hq → R (Bool × Hq)} {fe : Env' → Hq → R (D × Hq)} {σ : L2.St} {H : Hp} {Q : VK} (hsl : ∀ i ∈ c.slots, i ∈ own)
    (t : TEk X.K W (compD live c own fi ft fe) σ H Q) : tLc (TIk X.K W fi) (TGk X.K c) (TTk X.K (EK.none X.K) ft) (TEk X.K (EK.none X.K) fe) own σ H Q := by
  obtain ⟨Fr, ρ, s, h, r, sr, ok⟩ := t
  refine ⟨Fr, ρ, s, h, r, sr, (okR_bind.mp ok).mono (fun p q J ρ1 H1 x1 r1 iw Dd hD => ?_) fun _ _ z => z⟩
  obtain ⟨xs, w, h1⟩ := p
  dsimp only at q r1 iw
  generalize hstep : (fun (x : D) (h : Hq) => match asg c x (wipe' s own) with
    | some s' => hush ((ft s' h).bind fun b => if b.1 then (fe s' b.2).bind fun y => R.ok (some y.1, y.2) else .ok (none, b.2))
    | none => .stuck) = step at q
  have hf : ∀ a ∈ Dd :: Fr, a ∈ Fr ∨ H1 a = none := fun a ha => (List.mem_cons.mp ha).elim (fun e => .inr (e ▸ hD)) .inl
  let Good : Nat → Hp → Prop := fun i H' => ∃ ρ' h' ds vs, Ext ρ1 H1 ρ' H' ∧ HR X.K (Dd :: Fr) ρ' h' H' ∧ H' Dd = some (.lst vs) ∧ RDs X.K (Dd :: Fr) ρ' H' ds vs ∧
    okR (fun q => okR (Kont X.K Fr ρ H Q) (W.p Fr ρ H σ) (lift (mkL live q.1 q.2))) (W.p Fr ρ H σ) (turns w step (xs.drop i) ds h')
  refine ⟨fun i m H' => m = xs.length - i ∧ i ≤ xs.length ∧ Good i H', ⟨xs.length, by simp, Nat.zero_le _, ρ1, h1, [], [], ext_new hD, r1.aside hD, upd_same, RDs.nil, okR_bind.mp q⟩, ?_⟩
  rintro i m H2 ⟨rfl, hle, ρ2, h2, ds, vs, x2, r2, hv, q2, o2⟩
  by_cases hlt : i < xs.length
  · have e0 : xs.drop i = xs[i] :: xs.drop (i + 1) := (List.drop_eq_getElem_cons hlt)
    rw [e0] at o2
    unfold turns at o2
    split at o2
    · rename_i st
      obtain ⟨w1, _⟩ := iw (Dd :: Fr) i ρ2 H2 h2 hf x2 r2 st
      obtain ⟨go, yl⟩ := w1 xs[i] (List.getElem?_eq_getElem hlt)
      refine .inr ⟨go, Good (i + 1), fun H' g => ⟨xs.length - (i + 1), by omega, rfl, hlt, g⟩, fun x H3 hy => ?_⟩
      obtain ⟨x3, r3, d3, kp⟩ := yl x H3 hy
      have o3 := okR_bind.mp o2
      rw [← hstep] at o3
      dsimp only at o3
      have ne1 : Dd ∉ ρ2 := fun z => r2.dj Dd z List.mem_cons_self
      have hv3 := kp _ _ hv
      have x23 : Ext ρ1 H1 ρ2 H3 := x2.step r2 x3
      have sr3 : SR X.K (Dd :: Fr) ρ2 H3 s σ := ((sr.mono x1).fr hf).mono x23
      cases es' : asg c xs[i] (wipe' s own) with
      | some s' =>
        rw [es', hstep] at o3
        dsimp only at o3
        refine ⟨Dd :: Fr, ρ2, h2, wipe' s own, xs[i], s', r3, sr3.wipe _, d3, es', fun σ' sr' on => ⟨?_, ?_⟩⟩
        · have := on own hsl
          rw [this, wipe_idem]
        · have o4 := okR_bind.mp (okR_hush (E' := fun _ _ => False) o3)
          refine ⟨Dd :: Fr, ρ2, s', h2, r3, sr', o4.mono (fun b q4 ρ4 H4 x4 r4 => ?_) fun _ _ z => z⟩
          obtain ⟨b, h4⟩ := b
          have hv4 : H4 Dd = some (.lst vs) := x4.keep Dd _ ne1 hv3
          have ne4 : Dd ∉ ρ4 := fun z => r4.dj Dd z List.mem_cons_self
          cases b with
          | true =>
            rw [if_pos rfl]
            have q4 : okR _ _ ((fe s' h4).bind fun y => R.ok (some y.1, y.2)) := q4
            refine ⟨Dd :: Fr, ρ4, s', h4, r4, sr'.mono x4, (okR_bind.mp q4).mono (fun y q5 v ρ5 H5 x5 r5 d5 => ?_) fun _ _ z => z⟩
            obtain ⟨y, h5⟩ := y
            have hv5 : H5 Dd = some (.lst vs) := x5.keep Dd _ ne4 hv4
            have q5 : okR _ _ (if lineOk (ds.length + 1) = true then turns w step (xs.drop (i + 1)) (ds ++ [y]) h5 else R.stuck) := q5
            split at q5
            · rename_i hl
              have hl' : ds.length + 1 ≤ sizeLine := lineOk_le hl
              have x35 : Ext ρ2 H3 ρ5 H5 := x4.step r4 x5
              refine ⟨vs, hv5, by rw [← q2.length]; omega, ρ5, h5, ds ++ [y], vs ++ [v], (x23.step r3 x35).alt hD, r5.alt List.mem_cons_self rfl hv5, upd_same, ?_, q5⟩
              exact RDs.alt List.mem_cons_self rfl hv5 _ _ ((RDs.mono (x3.step r3 x35) _ _ q2).append (.cons d5 .nil))
            · exact q5.elim
          | false =>
            rw [if_neg Bool.false_ne_true]
            have q4 : okR _ _ (if lineOk (ds.length + 1) = true then turns w step (xs.drop (i + 1)) ds h4 else R.stuck) := q4
            split at q4
            · exact ⟨ρ4, h4, ds, vs, x23.step r3 x4, r4, hv4, RDs.mono (x3.step r3 x4) _ _ q2, q4⟩
            · exact q4.elim
      | none => rw [es'] at o3; exact o3.elim
    · exact o2.elim
  · have hi' : i = xs.length := by omega
    subst hi'
    rw [List.drop_length] at o2
    unfold turns at o2
    split at o2
    · rename_i st
      obtain ⟨_, w2⟩ := iw (Dd :: Fr) _ ρ2 H2 h2 hf x2 r2 st
      refine .inl ⟨w2 rfl, ?_⟩
      obtain ⟨y, e, k⟩ := okR_lift (show okR (Kont X.K Fr ρ H Q) (W.p Fr ρ H σ) (lift (mkL live ds h2)) from o2)
      have nF : Dd ∉ Fr := fun z => by obtain ⟨u, e⟩ := r1.fr Dd z; rw [hD] at e; cases e
      have nρ : Dd ∉ ρ2 := fun z => r2.dj Dd z List.mem_cons_self
      have x12 : Ext ρ H ρ2 H2 := x1.step r1 x2
      have hD0 : ∀ o, H Dd = some o → isTb o = true := by
        intro o e
        cases ht : isTb o with
        | true => rfl
        | false =>
          exfalso
          by_cases z : Dd ∈ ρ
          · obtain ⟨m, em, _⟩ := x1.more
            obtain ⟨u, e'⟩ := r1.tracked (show Dd ∈ ρ1 by rw [em]; exact List.mem_append_left _ z)
            rw [hD] at e'; cases e'
          · have := x1.keep Dd o z e ht; rw [hD] at this; cases this
      unfold mkL at e
      split at e
      · split at e
        · cases e
          refine k _ (ρ2 ++ [Dd]) H2 ⟨?_, fun a o n e t => x12.keep a o n e t⟩ (r2.own nF hv q2) ?_
          · obtain ⟨m, em, hm⟩ := x12.more
            refine ⟨m ++ [Dd], by rw [em, List.append_assoc], fun a ha => ?_⟩
            rcases List.mem_append.mp ha with z | z
            · exact hm a z
            · rw [List.mem_singleton] at z; rw [z]; exact hD0
          · unfold RD
            exact ⟨Dd, rfl, by rw [List.getElem?_append_right (by rw [r2.len]; exact Nat.le_refl _), r2.len]; simp⟩
        · cases e
          refine k _ ρ2 H2 x12 (r2.back fun a ha => List.mem_cons_of_mem _ ha) ?_
          unfold RD
          exact ⟨Dd, vs, rfl, hv, nρ, nF, RDs.fr (sub_fr fun a ha => List.mem_cons_of_mem _ ha) _ _ q2⟩
      · cases e
    · exact o2.elim
theorem se_comp {elt tg iter : Expr} {ifs : List Expr} {scope : Scope} {own : List (Str × Nat)} {pos : Pos} {live : Bool} {c : Tg} {fi : Env' → Hq → R Its'} {ft : Env' → Hq → R (Bool × Hq)} {fe : Env' → Hq → R (D × Hq)}
    (hc : X.calm = true) (hN : X.N.Nodup) (hi : SI X W tg iter fi) (ok : BlkOk X.N X.env.scope scope own)
    (hg : ∀ (s : Shared) (H : Hp) (C : Addr) (cl : List (Str × Addr)) (fp : List Addr), SG (X.blk s H scope (compEnvC scope cl C X.env) fp) tg c)
    (ht : ∀ (s : Shared) (H : Hp) (C : Addr) (cl : List (Str × Addr)) (fp : List Addr), STs (X.blk s H scope (compEnvC scope cl C X.env) fp) (EK.none X.K) ifs ft)
    (he : ∀ (s : Shared) (H : Hp) (C : Addr) (cl : List (Str × Addr)) (fp : List Addr), SE (X.blk s H scope (compEnvC scope cl C X.env) fp) (EK.none X.K) elt fe)
    (hs : ∀ x, foldedSetIterable iter X.env x = pure x) (hsl : ∀ i ∈ c.slots, i ∈ own.map (·.2)) :
    SE X W (.ListComp elt [⟨tg, iter, ifs, 0⟩] scope pos) (compD live c (own.map (·.2)) fi ft fe) :=
  PE.imp (pe_lc (g := TGk X.K c) (tt := TTk X.K (EK.none X.K) ft) (te := TEk X.K (EK.none X.K) fe) hc hN hi ok hg ht he hs) fun _ _ _ t => comp_t hsl t
end
end FF

/-! FFST: statements. -/
namespace FF
open PySem PySem.Spec PyProof.Rows L2

/-- what leaves does not hang on the slots -/
def EK.flat {K : PySem.W.Frag} (W : EK K) : Prop := ∀ Fr ρ H σ σ' e h, W.p Fr ρ H σ e h → W.p Fr ρ H σ' e h
theorem EK.none_flat {K : PySem.W.Frag} : (EK.none K).flat := fun _ _ _ _ _ _ _ h => h
def KontS (K : PySem.W.Frag) (Fr ρ : List Addr) (H : Hp) (Z : Ends) : Fl → Prop
  | .nx s h => ∀ σ' ρ' H', Ext ρ H ρ' H' → HR K Fr ρ' h H' → SR K Fr ρ' H' s σ' → Z.nx σ' H'
  | .rt d h => ∀ v ρ' H', Ext ρ H ρ' H' → HR K Fr ρ' h H' → RD K Fr ρ' H' d v → Z.rt v H'
  | .bk s h => ∀ σ' ρ' H', Ext ρ H ρ' H' → HR K Fr ρ' h H' → SR K Fr ρ' H' s σ' → Z.bk σ' H'
  | .ct s h => ∀ σ' ρ' H', Ext ρ H ρ' H' → HR K Fr ρ' h H' → SR K Fr ρ' H' s σ' → Z.ct σ' H'
def TSk (K : PySem.W.Frag) (W : EK K) (f : Env' → Hq → R Fl) : TS := fun Z σ H => ∃ Fr ρ s h, HR K Fr ρ h H ∧ SR K Fr ρ H s σ ∧ okR (KontS K Fr ρ H Z) (W.p Fr ρ H σ) (f s h)
def SS (X : Cx) (W : EK X.K) (st : Stmt) (f : Env' → Hq → R Fl) : Prop := PS X st (TSk X.K W f)
def SB (X : Cx) (W : EK X.K) (st : List Stmt) (f : Env' → Hq → R Fl) : Prop := PSs X st (TSk X.K W f)
section
variable {X : Cx} {W : EK X.K} {pos : Pos}
theorem KontS.mono {K : PySem.W.Frag} {Fr ρ ρ1 : List Addr} {H H1 : Hp} {h1 : Hq} {Z : Ends} {f : Fl} (k : KontS K Fr ρ H Z f) (x : Ext ρ H ρ1 H1) (r : HR K Fr ρ1 h1 H1) : KontS K Fr ρ1 H1 Z f := by
  cases f with
  | nx s h => exact fun σ' ρ' H' y r' sr => k σ' ρ' H' (x.step r y) r' sr
  | rt d h => exact fun v ρ' H' y r' sr => k v ρ' H' (x.step r y) r' sr
  | bk s h => exact fun σ' ρ' H' y r' sr => k σ' ρ' H' (x.step r y) r' sr
  | ct s h => exact fun σ' ρ' H' y r' sr => k σ' ρ' H' (x.step r y) r' sr

/-! ### blocks -/
theorem sb_nil : SB X W [] (fun s h => .ok (.nx s h)) := PSs.imp pss_nil fun Z σ H ⟨Fr, ρ, s, h, r, sr, ok⟩ => ok σ ρ H .refl r sr
def seqF (g : Env' → Hq → R Fl) : Fl → R Fl
  | .nx s h => g s h
  | f => .ok f
theorem sb_cons {a : Stmt} {rest : List Stmt} {f g : Env' → Hq → R Fl} (hW : W.flat) (h1 : SS X W a f) (h2 : SB X W rest g) : SB X W (a :: rest) (fun s h => (f s h).bind (seqF g)) := by
  refine PSs.imp (pss_cons h1 h2) fun Z σ H ⟨Fr, ρ, s, h, r, sr, ok⟩ => ⟨Fr, ρ, s, h, r, sr, (okR_bind.mp ok).mono (fun p q => ?_) fun _ _ z => z⟩
  cases p with
  | nx s1 h1 =>
    intro σ1 ρ1 H1 x1 r1 sr1
    have q : okR _ _ (g s1 h1) := q
    exact ⟨Fr, ρ1, s1, h1, r1, sr1, q.mono (fun f k => k.mono x1 r1) fun e h z => W.mono x1 r1 (hW _ _ _ _ _ _ _ z)⟩
  | rt _ _ => exact q
  | bk _ _ => exact q
  | ct _ _ => exact q
theorem ss_expr {e : Expr} {fe : Env' → Hq → R (D × Hq)} (he : SE X W e fe) (hs : swapsWith e none pos.line X.env = pure false) : SS X W (.Expr e pos) (fun s h => (fe s h).bind fun p => .ok (.nx s p.2)) := by
  refine PS.imp (ps_expr he hs) fun Z σ H ⟨Fr, ρ, s, h, r, sr, ok⟩ => ⟨Fr, ρ, s, h, r, sr, (okR_bind.mp ok).mono (fun p q v ρ1 H1 x1 r1 d1 => ?_) fun _ _ z => z⟩
  exact q σ ρ1 H1 x1 r1 (sr.mono x1)
theorem ss_ret {e : Expr} {fe : Env' → Hq → R (D × Hq)} (he : SE X W e fe) : SS X W (.Return (some e) pos) (fun s h => (fe s h).bind fun p => .ok (.rt p.1 p.2)) := by
  refine PS.imp (ps_ret he) fun Z σ H ⟨Fr, ρ, s, h, r, sr, ok⟩ => ⟨Fr, ρ, s, h, r, sr, (okR_bind.mp ok).mono (fun p q v ρ1 H1 x1 r1 d1 => ?_) fun _ _ z => z⟩
  exact q v ρ1 H1 x1 r1 d1
theorem ss_if {c : Expr} {a b : List Stmt} {ft : Env' → Hq → R (Bool × Hq)} {fa fb : Env' → Hq → R Fl} (hc : ST X W c ft) (ha : SB X W a fa) (hb : SB X W b fb) :
    SS X W (.If c a b pos) (fun s h => (ft s h).bind fun p => if p.1 then fa s p.2 else fb s p.2) := by
  refine PS.imp (ps_if hc ha hb) fun Z σ H ⟨Fr, ρ, s, h, r, sr, ok⟩ => ⟨Fr, ρ, s, h, r, sr, (okR_bind.mp ok).mono (fun p q ρ1 H1 x1 r1 => ?_) fun _ _ z => z⟩
  obtain ⟨b1, h1⟩ := p
  cases b1 with
  | true => exact ⟨Fr, ρ1, s, h1, r1, sr.mono x1, (show okR _ _ (fa s h1) from q).mono (fun f k => k.mono x1 r1) fun e h z => W.mono x1 r1 z⟩
  | false => exact ⟨Fr, ρ1, s, h1, r1, sr.mono x1, (show okR _ _ (fb s h1) from q).mono (fun f k => k.mono x1 r1) fun e h z => W.mono x1 r1 z⟩

/-! ### assignments -/
def asgF (c : Tg) (p : D × Hq) (s : Env') : R Fl := match asg c p.1 s with | some s' => .ok (.nx s' p.2) | none => .stuck
theorem asg_t {c : Tg} {fe : Env' → Hq → R (D × Hq)} {Z : Ends} {σ : L2.St} {H : Hp} (t : TSk X.K W (fun s h => (fe s h).bind fun p => asgF c p s) Z σ H) : tAsg (TEk X.K W fe) (TGk X.K c) Z σ H := by
  obtain ⟨Fr, ρ, s, h, r, sr, ok⟩ := t
  refine ⟨Fr, ρ, s, h, r, sr, (okR_bind.mp ok).mono (fun p q v ρ1 H1 x1 r1 d1 => ?_) fun _ _ z => z⟩
  unfold asgF at q
  cases e : asg c p.1 s with
  | none => rw [e] at q; exact q.elim
  | some s' =>
    rw [e] at q
    exact ⟨Fr, ρ1, p.2, s, p.1, s', r1, sr.mono x1, d1, e, fun σ' sr' _ => q σ' ρ1 H1 x1 r1 sr'⟩
theorem ss_asg {tg e : Expr} {c : Tg} {fe : Env' → Hq → R (D × Hq)} (he : SE X W e fe) (hg : SG X tg c) (hs : swapsWithSole [tg] e pos.line X.env = pure false) (hw : swappedStores [tg] e X.env = pure none)
    (h1 : (assignEach [tg] X.env).map (·.2) = [assign tg X.env]) : SS X W (.Assign [tg] e pos) (fun s h => (fe s h).bind fun p => asgF c p s) :=
  PS.imp (ps_asg he hg hs hw h1) fun _ _ _ t => asg_t t
theorem ss_setLc {i : Nat} {y : Str} {py : Pos} {elt tg iter : Expr} {ifs : List Expr} {scope : Scope} {own : List (Str × Nat)} {spos : Pos} {live : Bool} {c : Tg} {fi : Env' → Hq → R Its'} {ft : Env' → Hq → R (Bool × Hq)} {fe : Env' → Hq → R (D × Hq)}
    (hc : X.calm = true) (hN : X.N.Nodup) (hy : X.N[i]? = some y) (hyl : X.env.scope.names.lookup y = some .local)
    (hsw : swapsWith (.ListComp elt [⟨tg, iter, ifs, 0⟩] scope pos) (some (.Name y py)) spos.line X.env = pure true) (hi : SI X W tg iter fi) (ok : BlkOk X.N X.env.scope scope own)
    (hg : ∀ (s : Shared) (H : Hp) (C : Addr) (cl : List (Str × Addr)) (fp : List Addr), SG (X.blk s H scope (compEnvC scope cl C X.env) fp) tg c)
    (ht : ∀ (s : Shared) (H : Hp) (C : Addr) (cl : List (Str × Addr)) (fp : List Addr), STs (X.blk s H scope (compEnvC scope cl C X.env) fp) (EK.none X.K) ifs ft)
    (he : ∀ (s : Shared) (H : Hp) (C : Addr) (cl : List (Str × Addr)) (fp : List Addr), SE (X.blk s H scope (compEnvC scope cl C X.env) fp) (EK.none X.K) elt fe)
    (hs : ∀ x, foldedSetIterable iter X.env x = pure x) (hsl : ∀ i ∈ c.slots, i ∈ own.map (·.2)) :
    SS X W (.Assign [.Name y py] (.ListComp elt [⟨tg, iter, ifs, 0⟩] scope pos) spos) (fun s h => (compD live c (own.map (·.2)) fi ft fe s h).bind fun p => asgF (.name i) p s) := by
  refine PS.imp (ps_setLc (g := TGk X.K c) (tt := TTk X.K (EK.none X.K) ft) (te := TEk X.K (EK.none X.K) fe) hc hN hy hyl hsw hi ok hg ht he hs) fun Z σ H ⟨Fr, ρ, s, h, r, sr, ok⟩ => ?_
  refine comp_t (live := live) hsl ⟨Fr, ρ, s, h, r, sr, (okR_bind.mp ok).mono (fun p q v ρ1 H1 x1 r1 d1 => ?_) fun _ _ z => z⟩
  unfold asgF asg at q
  split at q
  · rename_i s' e
    split at e
    · cases e
      exact q _ ρ1 H1 x1 r1 ((sr.mono x1).set d1)
    · cases e
  · exact q.elim
def tupF (p : List D × Hq) : R (D × Hq) := lift (mkT p.1 p.2)
theorem mkT_some {ds : List D} {h : Hq} {p : D × Hq} (e : mkT ds h = some p) : p = (.tup ds, h) := by
  unfold mkT at e
  split at e
  · cases e; rfl
  · cases e
theorem ss_par {i j : Nat} {x y : Str} {a b : Expr} {px py pt : Pos} {kt k2 pt2} {fs : Env' → Hq → R (List D × Hq)} (hc : X.calm = true) (hN : X.N.Nodup) (hi : X.N[i]? = some x) (hj : X.N[j]? = some y) (hij : i ≠ j)
    (hx : X.env.scope.names.lookup x = some .local) (hy : X.env.scope.names.lookup y = some .local) (ha : SA X W [a, b] fs)
    (hw : swappedStores [.Tuple [.Name x px, .Name y py] kt pt] (.Tuple [a, b] k2 pt2) X.env = pure (some [x, y]))
    (hs : swapsWithSole [.Tuple [.Name x px, .Name y py] kt pt] (.Tuple [a, b] k2 pt2) pos.line X.env = pure false) :
    SS X W (.Assign [.Tuple [.Name x px, .Name y py] kt pt] (.Tuple [a, b] k2 pt2) pos) (fun s h => ((fs s h).bind tupF).bind fun p => asgF (.tup (.cons (.name i) (.cons (.name j) .nil))) p s) := by
  refine PS.imp (ps_par hc hN hi hj hij hx hy ha hw hs) fun Z σ H ⟨Fr, ρ, s, h, r, sr, ok⟩ => ⟨Fr, ρ, s, h, r, sr, (okR_bind.mp (okR_bind.mp ok)).mono (fun p q vs ρ1 H1 x1 r1 d1 => ?_) fun _ _ z => z⟩
  obtain ⟨p', e, k⟩ := okR_lift (show okR _ _ (lift (mkT p.1 p.2)) from q)
  have := mkT_some e
  subst this
  unfold asgF at k
  dsimp only at k
  cases e2 : asg (.tup (.cons (.name i) (.cons (.name j) .nil))) (.tup p.1) s with
  | none => rw [e2] at k; exact k.elim
  | some s' =>
    rw [e2] at k
    obtain ⟨ds, h1⟩ := p
    simp only [asg] at e2
    match ds, e2, d1 with
    | [], e2, _ => cases e2
    | [_], e2, _ => simp only [asgs, asg] at e2; split at e2 <;> simp at e2
    | _ :: _ :: _ :: _, e2, _ => simp only [asgs, asg] at e2; split at e2 <;> (try split at e2) <;> simp at e2
    | [d, d'], e2, d1 =>
      unfold RDs at d1
      obtain ⟨v, t, rfl, k1, d1⟩ := d1
      unfold RDs at d1
      obtain ⟨w, t, rfl, k2, d1⟩ := d1
      unfold RDs at d1
      subst d1
      refine ⟨v, w, rfl, ?_⟩
      simp only [asgs, asg] at e2
      split at e2
      · rename_i s2 e3
        split at e3
        · cases e3
          split at e2
          · rename_i s3 e4
            cases e2
            split at e4
            · cases e4
              exact k _ ρ1 H1 x1 r1 (((sr.mono x1).set k1).set k2)
            · cases e4
          · cases e2
        · cases e3
      · cases e2
/-- o[i] = e -/
theorem ss_setIx {o i e : Expr} {tpos : Pos} {fo fi fe : Env' → Hq → R (D × Hq)} (hset : PSet X (rSetD X.K)) (he : SE X W e fe) (ho : SE X (EK.none X.K) o fo) (hi : SE X (EK.none X.K) i fi) (hs : swapsWithSole [.Subscript o i tpos] e pos.line X.env = pure false) (hw : swappedStores [.Subscript o i tpos] e X.env = pure none)
    (h1 : (assignEach [.Subscript o i tpos] X.env).map (·.2) = [assign (.Subscript o i tpos) X.env])
    (ha : ∀ v, assign (.Subscript o i tpos) X.env v = (do
      let ov ← holding [v] (eval o X.env)
      let iv ← holding [v, ov] (eval i X.env)
      standAt tpos
      holding [v, ov, iv] (setItem ov iv v)
      release [v, ov, iv] [])) :
    SS X W (.Assign [.Subscript o i tpos] e pos) (fun s h => (fe s h).bind fun v => (hush (fo s v.2)).bind fun x => (hush (fi s x.2)).bind fun k => (lift (setD x.1 k.1 v.1 k.2)).bind fun h => .ok (.nx s h)) := by
  refine PS.imp (ps_asg he (pg_sub ho hi hset ha) hs hw h1) fun Z σ H ⟨Fr, ρ, s, h, r, sr, ok⟩ => ⟨Fr, ρ, s, h, r, sr, (okR_bind.mp ok).mono (fun p q v ρ1 H1 x1 r1 d1 => ?_) fun _ _ z => z⟩
  refine ⟨Fr, ρ1, s, p.2, r1, sr.mono x1, (okR_hush (E' := fun _ _ => False) (okR_bind.mp q)).mono (fun p2 q2 v2 ρ2 H2 x2 r2 d2 => ?_) fun _ _ z => z⟩
  refine ⟨Fr, ρ2, s, p2.2, r2, (sr.mono x1).mono x2, (okR_hush (E' := fun _ _ => False) (okR_bind.mp q2)).mono (fun p3 q3 v3 ρ3 H3 x3 r3 d3 => ?_) fun _ _ z => z⟩
  obtain ⟨h4, e4, k4⟩ := okR_lift (okR_bind.mp q3)
  have x13 := x2.step r2 x3
  exact ⟨Fr, ρ3, p3.2, p2.1, p3.1, p.1, r3, RD.mono x3 _ _ d2, d3, RD.mono x13 _ _ d1, h4, e4, fun ρ' H' x' r' => k4 σ ρ' H' (((x1.step r1 x13).step r3 x')) r' (((sr.mono x1).mono x13).mono x')⟩
end
end FF

/-! FFST2: loops. -/
namespace FF
open PySem PySem.Spec PyProof.Rows L2
section
variable {X : Cx} {W : EK X.K} {pos : Pos}
def stepF (c : Tg) (fb : Env' → Hq → R Fl) : D → Env' → Hq → R Fl := fun x s h => match asg c x s with | some s' => fb s' h | none => .stuck
theorem ss_for {tg iter : Expr} {body : List Stmt} {c : Tg} {fi : Env' → Hq → R Its'} {fb : Env' → Hq → R Fl} (hW : W.flat) (hp : PassesOwn (model X.prog X.w) X.A X.env X.xe) (hc : X.calm = true) (hi : SI X W tg iter fi) (hg : SG X tg c) (hb : SB X W body fb)
    (hs : ∀ x, foldedSetIterable iter X.env x = pure x) : SS X W (.For tg iter body [] pos) (fun s h => (fi s h).bind fun p => loopF p.2.1 (stepF c fb) p.1 s p.2.2) := by
  refine PS.imp (ps_for hp hc hi hg hb hs) fun Z σ H ⟨Fr, ρ, s, h, r, sr, ok⟩ => ?_
  refine ⟨Fr, ρ, s, h, r, sr, (okR_bind.mp ok).mono (fun p q J ρ1 H1 x1 r1 iw => ?_) fun _ _ z => z⟩
  obtain ⟨xs, w, h1⟩ := p
  dsimp only at q r1 iw
  refine ⟨fun i m σ' H' => m = xs.length - i ∧ i ≤ xs.length ∧ ∃ ρ' s' h', Ext ρ1 H1 ρ' H' ∧ HR X.K Fr ρ' h' H' ∧ SR X.K Fr ρ' H' s' σ' ∧ okR (KontS X.K Fr ρ H Z) (W.p Fr ρ H σ) (loopF w (stepF c fb) (xs.drop i) s' h'),
    ⟨_, rfl, Nat.zero_le _, ρ1, s, h1, .refl, r1, sr.mono x1, q⟩, ?_⟩
  rintro i m σ2 H2 ⟨rfl, hle, ρ2, s2, h2, x2, r2, sr2, o2⟩
  by_cases hlt : i < xs.length
  · have e0 : xs.drop i = xs[i] :: xs.drop (i + 1) := (List.drop_eq_getElem_cons hlt)
    rw [e0] at o2
    unfold loopF at o2
    cases st : stands h2 w with
    | false => rw [st] at o2; exact o2.elim
    | true =>
      rw [st, if_pos rfl] at o2
      obtain ⟨w1, _⟩ := iw Fr i ρ2 H2 h2 (fun a ha => .inl ha) x2 r2 st
      obtain ⟨go, yl⟩ := w1 xs[i] (List.getElem?_eq_getElem hlt)
      let Good : L2.St → Hp → Prop := fun σ' H' => ∃ ρ' s' h', Ext ρ1 H1 ρ' H' ∧ HR X.K Fr ρ' h' H' ∧ SR X.K Fr ρ' H' s' σ' ∧ okR (KontS X.K Fr ρ H Z) (W.p Fr ρ H σ) (loopF w (stepF c fb) (xs.drop (i + 1)) s' h')
      refine .inr ⟨go, Good, fun σ' H' g => ⟨xs.length - (i + 1), by omega, rfl, hlt, g⟩, fun x H3 hy => ?_⟩
      obtain ⟨x3, r3, d3, kp⟩ := yl x H3 hy
      have o3 := okR_bind.mp o2
      unfold stepF at o3
      cases es : asg c xs[i] s2 with
      | none => rw [es] at o3; exact o3.elim
      | some s' =>
        rw [es] at o3
        have x13 := x2.step r2 x3
        have x03 := x1.step r1 x13
        refine ⟨Fr, ρ2, h2, s2, xs[i], s', r3, sr2.mono x3, d3, es, fun σ' sr' _ => ?_⟩
        refine ⟨Fr, ρ2, s', h2, r3, sr', (show okR _ _ (fb s' h2) from o3).mono (fun f k => ?_) fun e h z => W.mono x03 r3 (hW _ _ _ _ _ _ _ z)⟩
        cases f with
        | nx s4 h4 => exact fun σ4 ρ4 H4 x4 r4 sr4 => ⟨ρ4, s4, h4, x13.step r3 x4, r4, sr4, k⟩
        | ct s4 h4 => exact fun σ4 ρ4 H4 x4 r4 sr4 => ⟨ρ4, s4, h4, x13.step r3 x4, r4, sr4, k⟩
        | bk s4 h4 => exact fun σ4 ρ4 H4 x4 r4 sr4 => (show KontS X.K Fr ρ H Z (.nx s4 h4) from k) σ4 ρ4 H4 (x03.step r3 x4) r4 sr4
        | rt d h4 => exact fun v ρ4 H4 x4 r4 d4 => (show KontS X.K Fr ρ H Z (.rt d h4) from k) v ρ4 H4 (x03.step r3 x4) r4 d4
  · have hi' : i = xs.length := by omega
    subst hi'
    rw [List.drop_length] at o2
    unfold loopF at o2
    cases st : stands h2 w with
    | false => rw [st] at o2; exact o2.elim
    | true =>
      rw [st, if_pos rfl] at o2
      obtain ⟨_, w2⟩ := iw Fr _ ρ2 H2 h2 (fun a ha => .inl ha) x2 r2 st
      exact .inl ⟨w2 rfl, (show KontS X.K Fr ρ H Z (.nx s2 h2) from o2) σ2 ρ2 H2 (x1.step r1 x2) r2 sr2⟩
theorem ss_while {t : Expr} {body : List Stmt} {ft : Env' → Hq → R (Bool × Hq)} {fb : Env' → Hq → R Fl} (n : Nat) (hW : W.flat) (hp : PassesOwn (model X.prog X.w) X.A X.env X.xe) (hc : ST X W t ft) (hb : SB X W body fb) :
    SS X W (.While t body [] pos) (fun s h => loopW ft fb n s h) := by
  refine PS.imp (ps_while hp hc hb) fun Z σ H ⟨Fr, ρ, s, h, r, sr, ok⟩ => ?_
  refine ⟨fun m σ' H' => ∃ ρ' s' h', Ext ρ H ρ' H' ∧ HR X.K Fr ρ' h' H' ∧ SR X.K Fr ρ' H' s' σ' ∧ okR (KontS X.K Fr ρ H Z) (W.p Fr ρ H σ) (loopW ft fb m s' h'), ⟨n, ρ, s, h, .refl, r, sr, ok⟩, ?_⟩
  rintro m σ2 H2 ⟨ρ2, s2, h2, x2, r2, sr2, o2⟩
  cases m with
  | zero => unfold loopW at o2; exact o2.elim
  | succ m =>
    unfold loopW at o2
    refine ⟨Fr, ρ2, s2, h2, r2, sr2, (okR_bind.mp o2).mono (fun p q ρ3 H3 x3 r3 => ?_) fun e h z => W.mono x2 r2 (hW _ _ _ _ _ _ _ z)⟩
    obtain ⟨b, h3⟩ := p
    have x03 := x2.step r2 x3
    cases b with
    | false => exact (show KontS X.K Fr ρ H Z (.nx s2 h3) from q) σ2 ρ3 H3 x03 r3 (sr2.mono x3)
    | true =>
      rw [if_pos rfl]
      let Good : L2.St → Hp → Prop := fun σ' H' => ∃ ρ' s' h', Ext ρ H ρ' H' ∧ HR X.K Fr ρ' h' H' ∧ SR X.K Fr ρ' H' s' σ' ∧ okR (KontS X.K Fr ρ H Z) (W.p Fr ρ H σ) (loopW ft fb m s' h')
      refine ⟨Good, fun σ' H' g => ⟨m, Nat.lt_succ_self m, g⟩, ?_⟩
      have q : okR _ _ ((fb s2 h3).bind _) := q
      refine ⟨Fr, ρ3, s2, h3, r3, sr2.mono x3, (okR_bind.mp q).mono (fun f k => ?_) fun e h z => W.mono x03 r3 (hW _ _ _ _ _ _ _ z)⟩
      cases f with
      | nx s4 h4 => exact fun σ4 ρ4 H4 x4 r4 sr4 => ⟨ρ4, s4, h4, x03.step r3 x4, r4, sr4, k⟩
      | ct s4 h4 => exact fun σ4 ρ4 H4 x4 r4 sr4 => ⟨ρ4, s4, h4, x03.step r3 x4, r4, sr4, k⟩
      | bk s4 h4 => exact fun σ4 ρ4 H4 x4 r4 sr4 => (show KontS X.K Fr ρ H Z (.nx s4 h4) from k) σ4 ρ4 H4 (x03.step r3 x4) r4 sr4
      | rt d h4 => exact fun v ρ4 H4 x4 r4 d4 => (show KontS X.K Fr ρ H Z (.rt d h4) from k) v ρ4 H4 (x03.step r3 x4) r4 d4
end
end FF

/-! FFFn: calls: how cells of a callee are taken away. -/
namespace FF
open PySem PySem.Spec PyProof.Rows L2
section
variable {K : PySem.W.Frag} {Fr ρ ρ' : List Addr} {H H' : Hp} {h h' : Hq}
/-- ρ' is ρ and more, all different -/
structure Pre (Fr ρ ρ' : List Addr) (n : Nat) : Prop where
  more : ∃ m, ρ' = ρ ++ m
  len : ρ.length = n
  nd : ρ'.Nodup
  dj : ∀ a ∈ ρ', a ∉ Fr
theorem Pre.out {n : Nat} (p : Pre Fr ρ ρ' n) {a : Addr} (z : a ∉ ρ') : a ∉ ρ := fun y => by
  obtain ⟨m, e⟩ := p.more
  exact z (by rw [e]; exact List.mem_append_left _ y)
theorem Pre.lo {n k : Nat} (p : Pre Fr ρ ρ' n) {a : Addr} (e : ρ'[k]? = some a) (hk : k < n) : ρ[k]? = some a := by
  obtain ⟨m, rfl⟩ := p.more
  rw [List.getElem?_append_left (by rw [p.len]; exact hk)] at e
  exact e
theorem Pre.hi {n k : Nat} (p : Pre Fr ρ ρ' n) {a : Addr} (e : ρ'[k]? = some a) (hk : ¬ k < n) : a ∉ ρ := by
  obtain ⟨m, rfl⟩ := p.more
  rw [List.getElem?_append_right (by rw [p.len]; omega)] at e
  intro z
  exact (List.nodup_append.mp p.nd).2.2 a z a (List.mem_of_getElem? e) rfl
mutual
theorem RD.under {n : Nat} (p : Pre Fr ρ ρ' n) : ∀ (d : D) (v : V), D.under n d = true → RD K Fr ρ' H d v → RD K Fr ρ H d v
  | .non, _, _, r => r
  | .bl _, _, _, r => r
  | .int _, _, _, r => r
  | .str _, _, _, r => r
  | .tup ds, _, u, r => by
    unfold RD at r ⊢
    unfold D.under at u
    obtain ⟨a, vs, e, k, n, q⟩ := r
    exact ⟨a, vs, e, k, p.out n, RDs.under p ds vs u q⟩
  | .lst ds, _, u, r => by
    unfold RD at r ⊢
    unfold D.under at u
    obtain ⟨a, vs, e, k, n, nf, q⟩ := r
    exact ⟨a, vs, e, k, p.out n, nf, RDs.under p ds vs u q⟩
  | .scr ns, _, _, r => by
    unfold RD at r ⊢
    obtain ⟨a, e, k⟩ := r
    exact ⟨a, e, k.imp (fun k => ⟨⟨k.1.1, p.out k.1.2⟩, k.2⟩) id⟩
  | .ktp ns, _, _, r => by
    unfold RD at r ⊢
    obtain ⟨a, e, k⟩ := r
    exact ⟨a, e, k.imp (fun k => ⟨k.1, p.out k.2⟩) id⟩
  | .ref n, _, u, r => by
    unfold RD at r ⊢
    unfold D.under at u
    obtain ⟨a, e, k⟩ := r
    exact ⟨a, e, p.lo k (of_decide_eq_true u)⟩
  | .dct _, _, _, r => r
  | .exn _ _, _, _, r => r
theorem RDs.under {n : Nat} (p : Pre Fr ρ ρ' n) : ∀ (ds : List D) (vs : List V), D.unders n ds = true → RDs K Fr ρ' H ds vs → RDs K Fr ρ H ds vs
  | [], _, _, r => r
  | d :: ds, _, u, r => by
    unfold RDs at r ⊢
    unfold D.unders at u
    rw [Bool.and_eq_true] at u
    obtain ⟨v, t, e, k, q⟩ := r
    exact ⟨v, t, e, RD.under p d v u.1 k, RDs.under p ds t u.2 q⟩
end
def Thaws (K : PySem.W.Frag) (Fr ρ ρ' : List Addr) (H : Hp) (g : List D → Option (List D)) : Prop := ∀ ds ds' vs, g ds = some ds' → RDs K Fr ρ' H ds vs → RDs K Fr ρ H ds' vs
theorem map_some' {α β : Type} {f : α → β} {o : Option α} {b : β} (h : o.map f = some b) : ∃ a, o = some a ∧ f a = b := by
  cases o with
  | none => cases h
  | some a => exact ⟨a, rfl, Option.some.inj h⟩
mutual
theorem RD.thaw {n : Nat} (p : Pre Fr ρ ρ' n) (r0 : HR K Fr ρ' h H) {g : List D → Option (List D)} (hg : Thaws K Fr ρ ρ' H g) : ∀ (d d' : D) (v : V), D.thaw n g h d = some d' → RD K Fr ρ' H d v → RD K Fr ρ H d' v
  | .non, _, _, e, r => by unfold D.thaw at e; cases e; exact r
  | .bl _, _, _, e, r => by unfold D.thaw at e; cases e; exact r
  | .int _, _, _, e, r => by unfold D.thaw at e; cases e; exact r
  | .str _, _, _, e, r => by unfold D.thaw at e; cases e; exact r
  | .ktp ns, _, _, e, r => by unfold D.thaw at e; cases e; exact RD.under p (.ktp ns) _ (by unfold D.under; rfl) r
  | .scr ns, _, _, e, r => by unfold D.thaw at e; cases e; exact RD.under p (.scr ns) _ (by unfold D.under; rfl) r
  | .tup ds, _, _, e, r => by
    unfold D.thaw at e
    obtain ⟨ds', e1, rfl⟩ := map_some' e
    unfold RD at r ⊢
    obtain ⟨a, vs, e, k, n, q⟩ := r
    exact ⟨a, vs, e, k, p.out n, RDs.thaw p r0 hg ds ds' vs e1 q⟩
  | .lst ds, _, _, e, r => by
    unfold D.thaw at e
    obtain ⟨ds', e1, rfl⟩ := map_some' e
    unfold RD at r ⊢
    obtain ⟨a, vs, e, k, n, nf, q⟩ := r
    exact ⟨a, vs, e, k, p.out n, nf, RDs.thaw p r0 hg ds ds' vs e1 q⟩
  | .dct ds, _, _, e, r => r.elim
  | .exn _ ds, _, _, e, r => r.elim
  | .ref k, _, v, e, r => by
    unfold D.thaw at e
    split at e
    · rename_i hk
      cases e
      exact RD.under p (.ref k) v (by unfold D.under; exact decide_eq_true hk) r
    · rename_i hk
      split at e
      · rename_i ds hds
        obtain ⟨ds', e1, rfl⟩ := map_some' e
        obtain ⟨a, vs, rfl, e2, e3, q⟩ := r0.lst r hds
        unfold RD
        exact ⟨a, vs, rfl, e3, p.hi e2 hk, p.dj a (List.mem_of_getElem? e2), hg ds ds' vs e1 q⟩
      · cases e
theorem RDs.thaw {n : Nat} (p : Pre Fr ρ ρ' n) (r0 : HR K Fr ρ' h H) {g : List D → Option (List D)} (hg : Thaws K Fr ρ ρ' H g) : ∀ (ds ds' : List D) (vs : List V), D.thaws n g h ds = some ds' → RDs K Fr ρ' H ds vs → RDs K Fr ρ H ds' vs
  | [], _, _, e, r => by unfold D.thaws at e; cases e; exact r
  | d :: ds, _, _, e, r => by
    unfold D.thaws at e
    split at e
    · rename_i a b e1 e2
      cases e
      unfold RDs at r ⊢
      obtain ⟨v, t, e, k, q⟩ := r
      exact ⟨v, t, e, RD.thaw p r0 hg d a v e1 k, RDs.thaw p r0 hg ds b t e2 q⟩
    · cases e
end
theorem thawN_ok {n : Nat} (p : Pre Fr ρ ρ' n) (r0 : HR K Fr ρ' h H) : ∀ k, Thaws K Fr ρ ρ' H (thawN n h k)
  | 0 => fun ds ds' vs e r => by
    unfold thawN at e
    split at e
    · rename_i u; cases e; exact RDs.under p _ _ u r
    · cases e
  | k + 1 => fun ds ds' vs e r => RDs.thaw p r0 (thawN_ok p r0 k) ds ds' vs e r
theorem RD.thaw1 {n : Nat} (p : Pre Fr ρ ρ' n) (r0 : HR K Fr ρ' h H) {d y : D} {v : V} (e : FF.thaw1 n h d = some y) (r : RD K Fr ρ' H d v) : RD K Fr ρ H y v := by
  unfold FF.thaw1 at e
  split at e
  · rename_i x hx
    cases e
    have q := thawN_ok p r0 3 [d] [y] [v] hx (.cons r .nil)
    unfold RDs at q
    obtain ⟨v', t, e, k, q⟩ := q
    cases e
    exact k
  · cases e
theorem pre_of (r : HR K Fr ρ h H) (x : Ext ρ H ρ' H') (r' : HR K Fr ρ' h' H') : Pre Fr ρ ρ' h.length := ⟨let ⟨m, e, _⟩ := x.more; ⟨m, e⟩, r.len, r'.nd, r'.dj⟩
theorem Ext.flat (x : Ext ρ H ρ' H') : Ext ρ H ρ H' := ⟨⟨[], by simp, by simp⟩, fun a o n e t => x.keep a o n e t⟩
/-- the cells of ahead, as they came to be -/
theorem HR.cut (r : HR K Fr ρ h H) (x : Ext ρ H ρ' H') (r' : HR K Fr ρ' h' H') (u : (h'.take h.length).all (Ob.under h.length) = true) : HR K Fr ρ (h'.take h.length) H' := by
  have p := pre_of r x r'
  obtain ⟨m, e⟩ := p.more
  refine ⟨?_, r.nd, r'.fr', r'.tb, fun a ha => r'.dj a (by rw [e]; exact List.mem_append_left _ ha), fun n o ho => ?_⟩
  · rw [List.length_take, ← r'.len, e, List.length_append, r.len]; omega
  · have hn : n < h.length := by
      have := (List.getElem?_eq_some_iff.mp ho).1
      rw [List.length_take] at this; omega
    rw [List.getElem?_take_of_lt hn] at ho
    obtain ⟨a, ea, q⟩ := r'.at' n o ho
    refine ⟨a, p.lo ea hn, ?_⟩
    have hu : Ob.under h.length o = true := by
      rw [List.all_eq_true] at u
      exact u o (List.mem_of_getElem? (by rw [List.getElem?_take_of_lt hn]; exact ho))
    have kr : ∀ {κ : Type} {kvs : List (κ × D)}, (kvs.all fun p => p.2.under h.length) = true → D.unders h.length (kvs.map (·.2)) = true := by
      intro κ kvs
      induction kvs with
      | nil => intro _; rfl
      | cons a t ih =>
        intro h
        rw [List.all_cons, Bool.and_eq_true] at h
        show (D.under _ a.2 && D.unders _ (t.map (·.2))) = true
        rw [h.1, ih h.2]; rfl
    cases o with
    | lst ds =>
      obtain ⟨vs, e1, q⟩ := q
      exact ⟨vs, e1, RDs.under p _ _ hu q⟩
    | dct kvs =>
      obtain ⟨vs, e1, q1, q2⟩ := q
      exact ⟨vs, e1, q1, RDs.under p _ _ (kr hu) q2⟩
    | dctT kvs =>
      obtain ⟨vs, e1, q1, q2⟩ := q
      exact ⟨vs, e1, q1, RDs.under p _ _ (kr hu) q2⟩
    | dctN kvs =>
      obtain ⟨vs, e1, q1, q2, q3⟩ := q
      have hn1 : ∀ kvs : List (D × D), (kvs.all fun p => p.1.under h.length && p.2.under h.length) = true → D.unders h.length (kvs.map (·.1)) = true ∧ D.unders h.length (kvs.map (·.2)) = true := by
        intro kvs
        induction kvs with
        | nil => intro _; exact ⟨rfl, rfl⟩
        | cons a t ih =>
          intro z
          rw [List.all_cons, Bool.and_eq_true, Bool.and_eq_true] at z
          obtain ⟨i1, i2⟩ := ih z.2
          refine ⟨?_, ?_⟩
          · show (D.under _ a.1 && D.unders _ (t.map (·.1))) = true
            rw [z.1.1, i1]; rfl
          · show (D.under _ a.2 && D.unders _ (t.map (·.2))) = true
            rw [z.1.2, i2]; rfl
      exact ⟨vs, e1, q1, RDs.under p _ _ (hn1 kvs hu).1 q2, RDs.under p _ _ (hn1 kvs hu).2 q3⟩
    | ins _ _ => exact q.elim
    | dead => exact q.elim
/-! ### a callee with cells of its own alone -/
theorem no_ref {n : Nat} {v : V} (r : RD K Fr [] H (.ref n) v) : False := by
  unfold RD at r
  obtain ⟨a, _, e⟩ := r
  simp at e
mutual
theorem RD.deep (r0 : HR K Fr ρ h H) : ∀ (d : D) (v : V), RD K (ρ ++ Fr) [] H d v → RD K Fr ρ H d v
  | .non, _, r => r
  | .bl _, _, r => r
  | .int _, _, r => r
  | .str _, _, r => r
  | .tup ds, _, r => by
    unfold RD at r ⊢
    obtain ⟨a, vs, e, k, n, q⟩ := r
    refine ⟨a, vs, e, k, fun z => ?_, RDs.deep r0 ds vs q⟩
    obtain ⟨n, hn, e2⟩ := List.getElem_of_mem z
    have hl : n < h.length := by rw [← r0.len]; exact hn
    obtain ⟨b, e3, o⟩ := r0.at' n h[n] (List.getElem?_eq_getElem hl)
    rw [List.getElem?_eq_getElem hn, e2] at e3
    cases e3
    generalize h[n] = o' at o
    cases o' with
    | lst ds => obtain ⟨vs, e, _⟩ := o; rw [k] at e; cases e
    | dct ds => obtain ⟨vs, e, _⟩ := o; rw [k] at e; cases e
    | dctT ds => obtain ⟨vs, e, _⟩ := o; rw [k] at e; cases e
    | dctN ds => obtain ⟨vs, e, _⟩ := o; rw [k] at e; cases e
    | ins _ _ => exact o.elim
    | dead => exact o.elim
  | .lst ds, _, r => by
    unfold RD at r ⊢
    obtain ⟨a, vs, e, k, n, nf, q⟩ := r
    rw [List.mem_append, not_or] at nf
    exact ⟨a, vs, e, k, nf.1, nf.2, RDs.deep r0 ds vs q⟩
  | .scr ns, _, r => by
    unfold RD at r ⊢
    obtain ⟨a, e, k⟩ := r
    refine ⟨a, e, k.imp (fun k => ?_) id⟩
    have nf := k.2
    rw [List.mem_append, not_or] at nf
    exact ⟨⟨k.1.1, nf.1⟩, nf.2⟩
  | .ktp ns, _, r => by
    unfold RD at r ⊢
    obtain ⟨a, e, k⟩ := r
    refine ⟨a, e, k.imp (fun k => ⟨k.1, fun z => ?_⟩) id⟩
    obtain ⟨o1, k1, _⟩ := k.1
    obtain ⟨n, hn, e2⟩ := List.getElem_of_mem z
    have hl : n < h.length := by rw [← r0.len]; exact hn
    obtain ⟨b, e3, o⟩ := r0.at' n h[n] (List.getElem?_eq_getElem hl)
    rw [List.getElem?_eq_getElem hn, e2] at e3
    cases e3
    generalize h[n] = o' at o
    cases o' with
    | lst ds => obtain ⟨vs, e, _⟩ := o; rw [k1] at e; cases e
    | dct ds => obtain ⟨vs, e, _⟩ := o; rw [k1] at e; cases e
    | dctT ds => obtain ⟨vs, e, _⟩ := o; rw [k1] at e; cases e
    | dctN ds => obtain ⟨vs, e, _⟩ := o; rw [k1] at e; cases e
    | ins _ _ => exact o.elim
    | dead => exact o.elim
  | .ref n, _, r => (no_ref r).elim
  | .dct _, _, r => r
  | .exn _ _, _, r => r
theorem RDs.deep (r0 : HR K Fr ρ h H) : ∀ (ds : List D) (vs : List V), RDs K (ρ ++ Fr) [] H ds vs → RDs K Fr ρ H ds vs
  | [], _, r => r
  | d :: ds, _, r => by
    unfold RDs at r ⊢
    obtain ⟨v, t, e, k, q⟩ := r
    exact ⟨v, t, e, RD.deep r0 d v k, RDs.deep r0 ds t q⟩
end
mutual
theorem RD.aloof : ∀ (d : D) (v : V), D.pure d = true → RD K Fr ρ H d v → RD K (ρ ++ Fr) [] H d v
  | .non, _, _, r => r
  | .bl _, _, _, r => r
  | .int _, _, _, r => r
  | .str _, _, _, r => r
  | .tup ds, _, u, r => by
    unfold RD at r ⊢
    unfold D.pure at u
    obtain ⟨a, vs, e, k, n, q⟩ := r
    exact ⟨a, vs, e, k, List.not_mem_nil, RDs.aloof ds vs u q⟩
  | .lst ds, _, u, r => by
    unfold RD at r ⊢
    unfold D.pure at u
    obtain ⟨a, vs, e, k, n, nf, q⟩ := r
    exact ⟨a, vs, e, k, List.not_mem_nil, by rw [List.mem_append, not_or]; exact ⟨n, nf⟩, RDs.aloof ds vs u q⟩
  | .scr ns, _, _, r => by
    unfold RD at r ⊢
    obtain ⟨a, e, k⟩ := r
    exact ⟨a, e, k.imp (fun k => ⟨⟨k.1.1, List.not_mem_nil⟩, by rw [List.mem_append, not_or]; exact ⟨k.1.2, k.2⟩⟩) id⟩
  | .ktp ns, _, _, r => by
    unfold RD at r ⊢
    obtain ⟨a, e, k⟩ := r
    exact ⟨a, e, k.imp (fun k => ⟨k.1, List.not_mem_nil⟩) id⟩
  | .ref n, _, u, r => by unfold D.pure at u; cases u
  | .dct _, _, _, r => r
  | .exn _ _, _, _, r => r
theorem RDs.aloof : ∀ (ds : List D) (vs : List V), D.pures ds = true → RDs K Fr ρ H ds vs → RDs K (ρ ++ Fr) [] H ds vs
  | [], _, _, r => r
  | d :: ds, _, u, r => by
    unfold RDs at r ⊢
    unfold D.pures at u
    rw [Bool.and_eq_true] at u
    obtain ⟨v, t, e, k, q⟩ := r
    exact ⟨v, t, e, RD.aloof d v u.1 k, RDs.aloof ds t u.2 q⟩
end
theorem HR.alone (r : HR K Fr ρ h H) : HR K (ρ ++ Fr) [] [] H :=
  ⟨rfl, .nil, fun a ha => (List.mem_append.mp ha).elim (fun z => let ⟨u, e, c⟩ := r.cl z; ⟨u, e, isCl_tb c⟩) (r.fr' a), r.tb, fun a ha => absurd ha List.not_mem_nil, fun n o e => by simp at e⟩
theorem Ext.alone (ρ : List Addr) (x : Ext [] H ρ' H') : Ext ρ H ρ H' := ⟨⟨[], by simp, by simp⟩, fun a o _ e t => x.keep a o List.not_mem_nil e t⟩
theorem HR.later (r : HR K Fr ρ h H) (x : Ext [] H ρ' H') (htb : ∀ P q, LamTab K P q → LamX.TabS H' P q) : HR K Fr ρ h H' := by
  refine ⟨r.len, r.nd, fun a ha => ?_, htb, r.dj, fun n o e => ?_⟩
  · obtain ⟨u, e, t⟩ := r.fr' a ha; exact ⟨u, x.keep a u List.not_mem_nil e t, t⟩
  · obtain ⟨a, e1, q⟩ := r.at' n o e
    refine ⟨a, e1, OR.mono (x.alone ρ) ?_ q⟩
    obtain ⟨u, e2, c⟩ := q.cl
    rw [e2]
    exact x.keep a u List.not_mem_nil e2 (isCl_tb c)
/-! ### what a def promises -/
def spF (K : PySem.W.Frag) (f : List D → Hq → R (D × Hq)) : List V → Hp → VK → Prop := fun vs H Q => ∃ Fr ρ h ds, HR K Fr ρ h H ∧ RDs K Fr ρ H ds vs ∧ okR (Kont K Fr ρ H Q) (fun _ _ => False) (f ds h)
theorem RDs.start {N : List Str} {np : Nat} {ds : List D} {vs : List V} (hn : ds.length = np) (r : RDs K Fr ρ H ds vs) : SR K Fr ρ H (ds.map some ++ List.replicate (N.length - np) none) (L2.start N vs) := by
  unfold L2.start
  have hl := r.length
  refine ⟨by simp [hl, ← hn], fun i d e => ?_⟩
  have hi : i < ds.length := by
    by_cases hi : i < ds.length
    · exact hi
    · rw [List.getElem?_append_right (by simpa using hi), List.getElem?_replicate] at e
      split at e <;> cases e
  rw [List.getElem?_append_left (by simpa using hi), List.getElem?_map] at e
  cases e1 : ds[i]? with
  | none => rw [e1] at e; cases e
  | some d' =>
    rw [e1] at e; cases e
    obtain ⟨v, e2, k⟩ := r.get e1
    exact ⟨v, by rw [List.getElem?_append_left (by rw [List.length_map, ← hl]; exact hi), List.getElem?_map, e2]; rfl, k⟩
/-- how a body's end is taken -/
theorem ends_ok {Q : VK} {E : D → Hq → Prop} {r : R Fl} (h : okR (Kont K Fr ρ H Q) E (r.bind endOf)) : okR (KontS K Fr ρ H { nx := fun _ H' => Q .non H', rt := Q }) E r := by
  refine (okR_bind.mp h).mono (fun f k => ?_) fun _ _ z => z
  cases f with
  | nx s h => exact fun σ' ρ' H' x r sr => (show Kont K Fr ρ H Q (.non, h) from k) .non ρ' H' x r (by unfold RD; rfl)
  | rt d h => exact k
  | bk _ _ => exact (show False from k).elim
  | ct _ _ => exact (show False from k).elim
theorem okR_onExc {P : D × Hq → Prop} {E : D → Hq → Prop} {h0 : Hq} {r : R (D × Hq)} (h : okR P E (onExc h0 r)) : okR P (fun e _ => e.pure = true ∧ E e h0) r := by
  cases r with
  | ok a => exact h
  | exc e q =>
    unfold onExc at h
    dsimp only at h
    split at h
    · rename_i c; exact ⟨c, h⟩
    · exact h.elim
  | stuck => exact h
/-- from a def's promise to what its body must do -/
theorem body_ok {φ : Fn} {d : Def} {vs : List V} {Q : VK} (sp : spF K (runDef φ d) vs H Q) {N : List Str} (hN : d.names.length = N.length) (hp : d.nps ≤ N.length) :
    vs.length = d.nps ∧ TSk K (EK.none K) (exB φ d.body) { nx := fun _ H' => Q .non H', rt := Q } (L2.start N vs) H := by
  obtain ⟨Fr, ρ, h, ds, r, ra, ok⟩ := sp
  unfold runDef at ok
  split at ok
  · exact ok.elim
  · rename_i hl
    have hl : ds.length = d.nps := Decidable.not_not.mp hl
    refine ⟨by rw [← ra.length]; exact hl, ?_⟩
    have st : ∀ {Fr ρ}, RDs K Fr ρ H ds vs → SR K Fr ρ H (ds.map some ++ List.replicate (d.names.length - d.nps) none) (L2.start N vs) := fun ra => by rw [hN]; exact RDs.start hl ra
    dsimp only at ok
    split at ok
    · exact ⟨Fr, ρ, _, h, r, st ra, ends_ok ok⟩
    · refine ⟨Fr, ρ, _, h, r, st ra, ends_ok ((okR_bind.mp ok).mono (fun p q v ρ' H' x r' d' => ?_) fun _ _ z => z)⟩
      obtain ⟨y, h'⟩ := p
      dsimp only at q r' d'
      cases e : thaw1 h.length h' y with
      | none => rw [e] at q; exact q.elim
      | some z =>
        rw [e] at q
        dsimp only at q
        split at q
        · rename_i u
          exact (show Kont K Fr ρ H Q (z, h'.take h.length) from q) v ρ H' x.flat (r.cut x r' u) (RD.thaw1 (pre_of r x r') r' e d')
        · exact q.elim
    · split at ok
      · rename_i hpu
        have ok := okR_onExc ok
        refine ⟨ρ ++ Fr, [], _, [], r.alone, st (RDs.aloof ds vs hpu ra), ends_ok ((okR_bind.mp ok).mono (fun p q v ρ' H' x r' d' => ?_) fun _ _ z => z.2)⟩
        obtain ⟨y, h'⟩ := p
        dsimp only at q r' d'
        cases e : thaw1 0 h' y with
        | none => rw [e] at q; exact q.elim
        | some z =>
          rw [e] at q
          have rl := r.later x r'.tb
          exact (show Kont K Fr ρ H Q (z, h) from q) v ρ H' (x.alone ρ) rl (RD.deep rl z v (RD.thaw1 (pre_of r.alone x r') r' e d'))
      · exact ok.elim
end
end FF

/-! FFFn2: defs and calls; the law's call. -/
namespace FF
open PySem PySem.Spec PyProof.Rows L2
/-- no exception is looked for -/
abbrev CXn : CXT := fun _ _ _ _ _ _ => False
abbrev SpV := List V → Hp → VK → Prop
/-- the promise of a def where nothing is being shown -/
structure Fg (P : Program) (w : World) (K : PySem.W.Frag) (mg : Str → Option Value) (base : Heap) (k : Nat) (f : Addr) (fd : FuncData) (ps : List Str) (sp : SpV) : Prop where
  many : ∀ vs H Q, sp vs H Q → vs.length = ps.length
  goes : ∀ (A : Around) (outer : List Env) (s : Shared) (H : Hp) (args : Args) (us : List Value) (vs : List V) (Q : VK),
    A.guards = some [] → Room k A → Env0 P w K mg base A outer s H → BindsTo s fd args (ps.zip us) → Vals vs us → sp vs H Q →
    codeAny (model P w) A (.call (.ref f) args) (fun r t => ∃ u, r = .ok (.ret u) ∧ CE outer P w H s Q u t) s
/-- the context of a body -/
abbrev Xb (P : Program) (w : World) (K : PySem.W.Frag) (mg : Str → Option Value) (base : Heap) (N : List Str) (qual : Str) (sc : Scope) (f : Addr) (cd : Value) (A : Around) (outer : List Env) (s : Shared) (H : Hp) : Cx :=
  (cxOf CXn P w K mg base N qual sc f cd A outer s H fun _ _ _ => False).nox
section
variable {P : Program} {w : World} {K : PySem.W.Frag} {mg : Str → Option Value} {base : Heap}
theorem fg_of {k : Nat} {f : Addr} {x q : Str} {pr : Arguments} {body : List Stmt} {sc : Scope} {dV kV doc pm cdv ct oc : Value} {an od : Option Addr} {osl : Array (Option Value)} {N ps : List Str} {sp : SpV}
    (lk : K.lookup f = some ⟨oc, od, .func (PySem.W.fnOf x q pr body sc dV kV doc pm an cdv ct), osl⟩) (ci : PySem.W.codeIn K cdv q = true) (S : FnScope N ps sc)
    (hl : ∀ vs H Q, sp vs H Q → vs.length = ps.length)
    (run : ∀ (A : Around) (outer : List Env) (s : Shared) (H : Hp) (vs : List V) (Q : VK), A.guards = some [] → Room k (A.deeper (envOfC q sc s.heap.objs.size f cdv)) → sp vs H Q →
      ∃ t, PSs (Xb P w K mg base N q sc f cdv A outer s H) body t ∧ t { nx := fun _ G => Q .non G, rt := Q } (L2.start N vs) H) :
    Fg P w K mg base (k + 1) f (PySem.W.fnOf x q pr body sc dV kV doc pm an cdv ct) ps sp := by
  refine ⟨hl, fun A outer s H args us vs Q hgd room en bind rel hsp => ?_⟩
  have kin : K.In s.heap := en.mod.kin.keeps fun b o e => (en.bs b o e).1
  have kinds : ∀ y ∈ ps.zip us, sc.names.lookup y.1 = some .local ∨ (sc.names.lookup y.1 = some .cell ∧ ((cellsFrom (s.heap.objs.size + 1) sc.names []).lookup y.1).isSome = true) := by
    intro ⟨n, v⟩ hy
    exact (S.par n (List.of_mem_zip hy).1).imp id fun c => ⟨c, PySem.W.cellsFrom_some _ _ _ (.inl c)⟩
  refine codeAny_call_function room.depth (kin _ _ lk) rfl S.co S.gen rfl (PySem.W.codeRec_of kin ci) (bind _ _ _ _ (wpAny_newFunctionEnv_cells S.kind kinds fun env ee s1 x => ?_))
  subst ee
  have nl : s.heap.NoLimit := en.mod.nolimit.keeps fun b o e => (en.bs b o e).1
  refine ⟨nl.keeps x.toInCall.keep, codeAny_func ?_⟩
  obtain ⟨t, ht, hq⟩ := run A outer s H vs Q hgd (room.deeper _) hsp
  have I : L2.Inv (cxOf CXn P w K mg base N q sc f cdv A outer s H fun _ _ _ => False) [] (L2.start N vs) H s1 := inv_start S room.hd en (hl _ _ _ hsp) rel x
  refine wpAny_mono (ht.run [] s1 (L2.start N vs) H _ (I.wish _) hq) ?_ ?_
  · rintro (_ | u | _ | _) s' hs <;> replace hs := SP.unwish hs
    · obtain ⟨σ', H', J, q⟩ := hs
      exact ⟨_, rfl, .non, H', J.os, J.bare, J.base, J.hok, rfl, q⟩
    · first
        | (obtain ⟨v, σ', H', J, rv, q⟩ := hs; exact ⟨_, rfl, v, H', J.os, J.bare, J.base, J.hok, rv, q⟩)
        | (obtain ⟨_, _, _, q⟩ := hs; exact q.elim)
    · first
        | (obtain ⟨v, σ', H', J, rv, q⟩ := hs; exact ⟨_, rfl, v, H', J.os, J.bare, J.base, J.hok, rv, q⟩)
        | (obtain ⟨_, _, _, q⟩ := hs; exact q.elim)
    · first
        | (obtain ⟨v, σ', H', J, rv, q⟩ := hs; exact ⟨_, rfl, v, H', J.os, J.bare, J.base, J.hok, rv, q⟩)
        | (obtain ⟨_, _, _, q⟩ := hs; exact q.elim)
  · exact fun e s' hs => False.elim hs
end

/-! ### calls -/
section
variable {X : Cx} {k : Nat} {f : Addr} {fd : FuncData} {ps : List Str} {sp : SpV} {x : Str} {p pos : Pos} {e : Expr} {es : List Expr} {t : TA}
theorem fg_run {pins : List (Addr × Obj)} {σ : L2.St} {H : Hp} {s : Shared} {Q : VK} {args : Args} {us : List Value} {vs : List V} (F : Fg X.prog X.w X.K X.mg X.base k f fd ps sp) (hgd : X.A.guards = some []) (hr : Room k X.A)
    (I : L2.Inv X pins σ H s) (r : Vals vs us) (hb : BindsTo s fd args (ps.zip us)) (h : sp vs H Q) : wpAny (model X.prog X.w) X.A (PySem.call (.ref f) args.pos args.kw) (EP X pins σ Q) X.xe s := by
  refine wpAny_call (codeAny_mono (F.goes X.A X.stack s H args us vs Q hgd hr I.env0 hb r h) ?_)
  rintro _ s' ⟨u, rfl, c⟩
  exact I.after c
theorem pe_fg (F : Fg X.prog X.w X.K X.mg X.base k f fd ps sp) (hgd : X.A.guards = some []) (hr : Room k X.A) (hg : Gl X x) (hm : X.mg x = some (.ref f)) (hk : PySem.W.keepIn X.K (.ref f) = true)
    (hb : ∀ us : List Value, us.length = ps.length → bindArgs fd ⟨us, []⟩ = pure (ps.zip us)) (ha : PA X (e :: es) t) (hdb : (x == ("__debug__" : Str)) = false)
    (he : starEach (e :: es) X.env = (false, eval e X.env) :: starEach es X.env) (hpl : (backTo pos (starEach es X.env)).any (·.1) = false) : PE X (.Call (.Name x p) (e :: es) [] pos) (fun σ H Q => t σ H fun vs G => sp vs G Q) := by
  refine ⟨fun pins s σ H Q I h => wpAny_Call_Name_kw (ld_glob I hg hm ?_ hdb)⟩
  refine PySem.W.callWith_K (h₀ := X.base) I.ok.mod.kin hk (thn (ha.run pos pins s σ H _ I h) ?_) he hpl
  rintro us t1 ⟨vs, G, J, r, q⟩
  exact ⟨J.kIn, fg_run (args := ⟨us, []⟩) F hgd hr J r (.of_eq (hb us (by rw [← r.length]; exact F.many _ _ _ q))) q⟩
/-- which of the written values goes where -/
def perm {α : Type} (l : List Nat) (xs : List α) : List α := l.filterMap fun i => xs[i]?
theorem PK.imp {e : List Keyword} {t t' : TA} (h : PK X e t) (i : ∀ σ H Q, t' σ H Q → t σ H Q) : PK X e t' := ⟨fun pos pins s σ H Q I q => h.run pos pins s σ H Q I (i _ _ _ q)⟩
end
/-- a def of the text that may be called -/
structure Cal (P : Program) (w : World) (K : PySem.W.Frag) (mg : Str → Option Value) (base : Heap) (k : Nat) (fx : List D → Hq → R (D × Hq)) (st : Stmt) (x : Str) (ps : List Str) : Prop where
  ex : ∃ (f : Addr) (kV doc pm : Value) (an : Option Addr) (cdv ct : Value), Fg P w K mg base k f (PySem.W.fnOf x x (defArgs st) (defBody st) (defScope st) .none kV doc pm an cdv ct) ps (spF K fx) ∧ mg x = some (.ref f) ∧ PySem.W.keepIn K (.ref f) = true
section
variable {X : Cx} {k : Nat} {fx : List D → Hq → R (D × Hq)} {st : Stmt} {ps : List Str} {x : Str} {p pos : Pos} {e : Expr} {es : List Expr}
theorem se_call {fs : Env' → Hq → R (List D × Hq)} (C : Cal X.prog X.w X.K X.mg X.base k fx st x ps) (hgd : X.A.guards = some []) (hr : Room k X.A) (hg : Gl X x)
    (hb : ∀ (kV doc pm : Value) (an : Option Addr) (cdv ct : Value) (us : List Value), us.length = ps.length → bindArgs (PySem.W.fnOf x x (defArgs st) (defBody st) (defScope st) .none kV doc pm an cdv ct) ⟨us, []⟩ = pure (ps.zip us))
    (ha : SA X (EK.none X.K) (e :: es) fs) (hdb : (x == ("__debug__" : Str)) = false) (he : starEach (e :: es) X.env = (false, eval e X.env) :: starEach es X.env) (hpl : (backTo pos (starEach es X.env)).any (·.1) = false) :
    SE X (EK.none X.K) (.Call (.Name x p) (e :: es) [] pos) (fun s h => (fs s h).bind fun q => fx q.1 q.2) := by
  obtain ⟨f, kV, doc, pm, an, cdv, ct, F, hm, hk⟩ := C.ex
  exact PE.imp (pe_fg F hgd hr hg hm hk (hb _ _ _ _ _ _) ha hdb he hpl) fun σ H Q t => (tA (g := fx) t).mono fun xs G ⟨Fr, ρ, h, ds, r, d, ok⟩ => ⟨Fr, ρ, h, ds, r, d, ok⟩
/-- a def keeps its promise -/
theorem cal_of {P : Program} {w : World} {K : PySem.W.Frag} {mg : Str → Option Value} {base : Heap} {f : Addr} {φ : Fn} {d : Def} {N : List Str} {kV doc pm cdv ct oc : Value} {an od : Option Addr} {osl : Array (Option Value)}
    (lk : K.lookup f = some ⟨oc, od, .func (PySem.W.fnOf x x (defArgs st) (defBody st) (defScope st) .none kV doc pm an cdv ct), osl⟩) (ci : PySem.W.codeIn K cdv x = true) (hm : mg x = some (.ref f)) (hk : PySem.W.keepIn K (.ref f) = true)
    (S : FnScope N ps (defScope st)) (hn : d.names.length = N.length) (hp : d.nps = ps.length)
    (body : ∀ (A : Around) (outer : List Env) (s : Shared) (H : Hp), A.guards = some [] → Room k (A.deeper (envOfC x (defScope st) s.heap.objs.size f cdv)) →
      SB (Xb P w K mg base N x (defScope st) f cdv A outer s H) (EK.none K) (defBody st) (exB φ d.body)) : Cal P w K mg base (k + 1) (runDef φ d) st x ps := by
  have hpl : ps.length ≤ N.length := by have := congrArg List.length S.pre; rw [List.length_take] at this; omega
  refine ⟨f, kV, doc, pm, an, cdv, ct, fg_of lk ci S (fun vs H Q h => ?_) (fun A outer s H vs Q hgd hr h => ?_), hm, hk⟩
  · rw [← hp]; exact (body_ok h hn (by rw [hp]; exact hpl)).1
  · exact ⟨_, body A outer s H hgd hr, (body_ok h hn (by rw [hp]; exact hpl)).2⟩
end
end FF

/-! FFHead: the law's own call. -/
namespace FF
open PySem PySem.Spec PyProof.Rows L2
section
/-- the heap in which the script alone is known -/
def scrH (K : PySem.W.Frag) (a : Addr) (o : Obj) (ns : List Int) : Hp := fun b => if b = a ∧ K.lookup a = none then some (.frz o (.lst (ns.map V.int))) else none
theorem scrH_some {K : PySem.W.Frag} {a b : Addr} {o : Obj} {ns : List Int} {u : HO} (h : scrH K a o ns b = some u) : b = a ∧ K.lookup a = none ∧ u = .frz o (.lst (ns.map V.int)) := by
  unfold scrH at h
  split at h
  · rename_i c; cases h; exact ⟨c.1, c.2, rfl⟩
  · cases h
theorem scrH_at {K : PySem.W.Frag} {a : Addr} {o : Obj} {ns : List Int} (h : K.lookup a = none) : scrH K a o ns a = some (.frz o (.lst (ns.map V.int))) := if_pos ⟨rfl, h⟩
theorem law_goes {P : Program} {w : World} {K : PySem.W.Frag} {mg mb : Str → Option Value} {k : Nat} {fa a : Addr} {fd : FuncData} {x : Str} {fx : List D → Hq → R (D × Hq)} {s : Shared} {vs : List Value} {ns : List Int}
    (kin : K.In s.heap) (nsM : s.heap.Ns mainGlobals mg) (nsB : s.heap.Ns builtinsNs mb) (boot : ∀ y : Str, y ≠ "__name__" → mb y = bootBuiltins y) (nol : s.heap.NoLimit) (gens : s.gens = #[])
    (obj : s.heap.get? a = some { cls := .type "list", data := .seq vs.toArray }) (inz : IntsAre vs ns) (few : ns.length ≤ sizeLine) (room : Room k callerA) (nolam : lamTabs K = [])
    (F : ∀ base : Heap, K.In base → base.Ns mainGlobals mg → Fg P w K mg base k fa fd [x] (spF K fx)) (bind : ∀ (t : Shared) (u : Value), BindsTo t fd ⟨[u], []⟩ [(x, u)])
    (told : ∃ h', fx [.scr ns] [] = .ok (.bl true, h')) :
    codeAny (model P w) callerA (.call (.ref fa) ⟨[.ref a], []⟩) (fun r t => r = .ok (.ret (.bool true)) ∧ OldK s.heap t.heap ∧ t.os = s.os ∧ AllBare t.gens) s := by
  have vals := vals_ints inz
  let ob : Obj := { cls := .type "list", data := .seq vs.toArray }
  let H : Hp := scrH K a ob ns
  have seen : ∀ {b : Addr} {o : Obj}, s.heap.get? b = some o → H b = none → (hidT s.heap H).get? b = some o := fun e z => hidT_get e z
  have free : ∀ {b : Addr} {o : Obj}, K.lookup b = some o → H b = none := by
    intro b o e
    cases q : H b with
    | none => rfl
    | some u =>
      obtain ⟨rfl, z, _⟩ := scrH_some q
      rw [e] at z; cases z
  have nsOf : ∀ {b : Addr} {m : Str → Option Value}, s.heap.Ns b m → (hidT s.heap H).Ns b m := by
    rintro b m ⟨o, es, ep, e, d, rest⟩
    refine ⟨o, es, ep, seen e ?_, d, rest⟩
    cases q : H b with
    | none => rfl
    | some u =>
      obtain ⟨rfl, _, _⟩ := scrH_some q
      rw [obj] at e; cases e
      have d : Data.seq vs.toArray _ = Data.dict es ep := d
      cases d
  have kb : K.In (hidT s.heap H) := fun b o e => seen (kin b o e) (free e)
  have mod : Mod K mg (hidT s.heap H) := by
    obtain ⟨mc, z1, z2⟩ := nol
    exact ⟨kb, nsOf nsM, ⟨mb, nsOf nsB, boot⟩, mc, nsOf z1, z2⟩
  have hok : HOk P w H s.heap := by
    intro b u q
    obtain ⟨rfl, _, rfl⟩ := scrH_some q
    exact ⟨obj, by rw [List.length_map]; exact few, vs, _, vals, obj⟩
  have en : Env0 P w K mg (hidT s.heap H) callerA [] s H :=
    ⟨rfl, mod, fun b o e => of_hidT e, Nat.le_of_eq (hidT_size _ _), trivial, fun b hb => absurd hb List.not_mem_nil, hok, .of_eq gens⟩
  have rd : RD K [] [] H (.scr ns) (.ref a) := by
    unfold RD
    refine ⟨a, rfl, ?_⟩
    cases e : K.lookup a with
    | none => exact .inl ⟨⟨.inr ⟨ob, scrH_at e⟩, List.not_mem_nil⟩, List.not_mem_nil⟩
    | some o =>
      have z := kin a o e
      rw [obj] at z; cases z
      exact .inr ⟨_, vs.toArray, _, e, rfl, rfl, rfl, by rw [List.size_toArray, inz.length]; exact few, by simpa using vals⟩
  have hr : HR K [] [] [] H := ⟨rfl, .nil, fun b hb => absurd hb List.not_mem_nil, fun P q l => (by obtain ⟨c, l⟩ := l; rw [nolam] at l; cases l), fun b hb => absurd hb List.not_mem_nil, fun n o e => by simp at e⟩
  obtain ⟨h', told⟩ := told
  have sp : spF K fx [.ref a] H (fun v _ => v = .bl true) := by
    refine ⟨[], [], [], [.scr ns], hr, .cons rd .nil, ?_⟩
    rw [told]
    intro v ρ' H' _ _ d
    unfold RD at d
    exact d
  refine codeAny_mono ((F _ kb (nsOf nsM)).goes callerA [] s H ⟨[.ref a], []⟩ [.ref a] [.ref a] _ rfl room en (bind s (.ref a)) (.cons rfl .nil) sp) ?_
  rintro _ t ⟨u, rfl, v, G, os, bare, un, okG, rv, q⟩
  have q : v = .bl true := q
  subst q
  obtain rfl : u = Value.bool true := rv
  refine ⟨rfl, OldK.of_keep fun b o e => ?_, os, bare⟩
  cases z : H b with
  | none => exact un.keep b o e z (fun y => absurd y List.not_mem_nil) (by simp)
  | some y =>
    obtain ⟨rfl, _, rfl⟩ := scrH_some z
    have z2 := un.frzs _ _ _ z
    have w1 := (hok _ _ z).1
    have w2 := (okG _ _ z2).1
    rw [e] at w1; cases w1
    exact w2
/-- the goal that the head of a row leaves -/
theorem law_walk {l : PySem.W.OpenLaw} {n k : Nat} {q : Program} {loose : List Str} {XP : (Str → Option Value) → Heap → Prop} {YP : World → Heap → Prop} {d : DefRec} {K : Params → PySem.W.Frag} {fx : List D → Hq → R (D × Hq)} {x : Str}
    (most : l.most = some n) (n2 : n ≤ sizeLine) (dfl : d.params.defaults = []) (room : Room k callerA)
    (told : ∀ ns : List Int, ns.length ≤ n → (∀ z ∈ ns, Builtin.Int.intBits z ≤ 1048576) → ∃ h', fx [.scr ns] [] = .ok (.bl true, h'))
    (yk : ∀ (w : World) (h : Heap), YP w h → (K w.params).In h) (nolam : ∀ p : Params, lamTabs (K p) = [])
    (F : ∀ (w : World) (mg : Str → Option Value) (fa : Addr) (h : Heap), (K w.params).In h → h.Ns mainGlobals mg → mg d.name = some (.ref fa) →
      ∃ fd : FuncData, (∀ (s : Shared) (u : Value), BindsTo s fd ⟨[u], []⟩ [(x, u)]) ∧
        ∀ base : Heap, (K w.params).In base → base.Ns mainGlobals mg → Fg l.prog w (K w.params) mg base k fa fd [x] (spF (K w.params) fx)) :
    PySem.W.WalkO q loose XP YP l.row.toRowW d [] (fun f vs => PySem.call f vs) := by
  refine Att.attach_callB most dfl fun w s0 s1 mg mb fa o pm cd doc a vs ns G Y _ _ _ hmg obj inz len bits gens => ?_
  obtain ⟨fd, hb, hF⟩ := F w mg fa _ (yk w _ Y) G.T.g hmg
  exact law_goes (yk w _ Y) G.T.g G.T.b G.T.builtins G.T.nolimit gens obj inz (Nat.le_trans len n2) room (nolam _) hF hb (told ns len bits)
end
end FF

/-! FFDict: displays of dicts. -/
namespace FF
open PySem PySem.Spec PyProof.Rows L2
abbrev FD := Env' → Hq → R (D × Hq)
section
variable {X : Cx} {pos : Pos}
end
end FF

/-! FFWalk: the rules by the core's forms. -/
namespace FF
open PySem PySem.Spec PyProof.Rows L2
section
variable {X : Cx} {W : EK X.K} {φ : Fn} {pos : Pos}
theorem w_var {x : Str} {i : Nat} (hN : X.N[i]? = some x) (hv : Vis X.env.scope x) (hd : (x == ("__debug__" : Str)) = false) (hcd : (x == ("__classdict__" : Str)) = false) : SE X W (.Name x pos) (ev φ (.var i)) := se_var hN hv hd hcd
theorem w_non {k : Nat} : SE X W (.Constant .none k pos) (ev φ (.const .non)) := se_const pe_non fun _ _ _ => by unfold RD; rfl
theorem w_bool {k : Nat} {b : Bool} : SE X W (.Constant (.bool b) k pos) (ev φ (.const (.bl b))) := se_const pe_bl fun _ _ _ => by unfold RD; rfl
theorem w_int {k : Nat} {i : Int} : SE X W (.Constant (.int i) k pos) (ev φ (.const (.int i))) := se_const pe_int fun _ _ _ => by unfold RD; rfl
theorem w_bin {op : Operator} {live : Bool} {a b : Expr} {ca cb : Ex} (ha : SE X W a (ev φ ca)) (hb : SE X W b (ev φ cb)) : SE X W (.BinOp a op b pos) (ev φ (.bin op live ca cb)) := se_bin ha hb
theorem w_neg {a : Expr} {ca : Ex} (ha : SE X W a (ev φ ca)) : SE X W (.UnaryOp .USub a pos) (ev φ (.neg ca)) := se_neg ha
theorem w_cmp {op : CmpOp} {a b : Expr} {ca cb : Ex} (hu : X.A.units + 65 < cLine) (ha : SE X W a (ev φ ca)) (hb : SE X W b (ev φ cb)) (hm : behindInMarks op b = false) : SE X W (.Compare a [op] [b] pos) (ev φ (.cmp op ca cb)) := se_cmp hu ha hb hm
theorem w_and {a b : Expr} {r : List Expr} {ca cb : Ex} (ha : SE X W a (ev φ ca)) (hb : SE X W (.BoolOp .And (b :: r) pos) (ev φ cb)) : SE X W (.BoolOp .And (a :: b :: r) pos) (ev φ (.andV ca cb)) := se_and ha hb
theorem w_one {op : BoolOp} {a : Expr} {ca : Ex} (ha : SE X W a (ev φ ca)) : SE X W (.BoolOp op [a] pos) (ev φ ca) := se_one ha
theorem w_if {t a b : Expr} {ct ca cb : Ex} (ht : ST X W t (fun s h => testOf (ev φ ct s h))) (ha : SE X W a (ev φ ca)) (hb : SE X W b (ev φ cb)) : SE X W (.IfExp t a b pos) (ev φ (.ife ct ca cb)) := se_if ht ha hb
theorem w_ix {a b : Expr} {ca cb : Ex} (hu : X.A.units + 1 < cLine) (ha : SE X W a (ev φ ca)) (hb : SE X W b (ev φ cb)) (hs : PlainIx b) : SE X W (.Subscript a b pos) (ev φ (.ix ca cb)) := se_ix hu ha hb hs
theorem w_slice {e : Expr} {lo hi : Option Expr} {p2 : Pos} {ce : Ex} {cl ch : Exo} (he : SE X W e (ev φ ce)) (hl : SO X W lo (evO φ cl)) (hh : SO X W hi (evO φ ch)) : SE X W (.Subscript e (.Slice lo hi none p2) pos) (ev φ (.slice ce cl ch)) := se_slice he hl hh
theorem w_no : SO X W none (evO φ .no) := so_no
theorem w_yes {e : Expr} {ce : Ex} (he : SE X W e (ev φ ce)) : SO X W (some e) (evO φ (.yes ce)) := so_yes he
theorem w_anil : SA X W [] (evs φ .nil) := sa_nil
theorem w_acons {e : Expr} {es : List Expr} {ce : Ex} {cs : Exs} (he : SE X W e (ev φ ce)) (hs : SA X W es (evs φ cs)) (hst : starEach (e :: es) X.env = (false, eval e X.env) :: starEach es X.env) : SA X W (e :: es) (evs φ (.cons ce cs)) := sa_cons he hs hst
theorem w_tup {es : List Expr} {x1 : Nat} {cs : Exs} (h : SA X W es (evs φ cs)) : SE X W (.Tuple es x1 pos) (ev φ (.tup cs)) := se_tup h
theorem w_lst {es : List Expr} {live : Bool} {cs : Exs} (h : SA X W es (evs φ cs)) : SE X W (.List es pos) (ev φ (.lst live cs)) := se_lst h
/-! built-ins -/
theorem w_cb {id : String} {x : Str} {e : Expr} {es : List Expr} {p : Pos} {f : Bi} {live : Bool} {cs : Exs} (hc : CallR X (.builtin id) (rDs X.K (biD f live))) (hg : Gl X x) (hm : X.mg x = none) (hv : bootBuiltins x = some (.builtin id))
    (ha : SA X W (e :: es) (evs φ cs)) (hn : x ≠ "__name__") (hdb : (x == ("__debug__" : Str)) = false) (he : starEach (e :: es) X.env = (false, eval e X.env) :: starEach es X.env) (hpl : (backTo pos (starEach es X.env)).any (·.1) = false) :
    SE X W (.Call (.Name x p) (e :: es) [] pos) (ev φ (.bi f live cs)) := se_cb hc hg hm hv ha hn hdb he hpl
theorem w_ct {id : String} {x : Str} {e : Expr} {es : List Expr} {p : Pos} {f : Bi} {live : Bool} {cs : Exs} (hc : CallR X (.type id) (rDs X.K (biD f live))) (hg : Gl X x) (hm : X.mg x = none) (hv : bootBuiltins x = some (.type id))
    (ha : SA X W (e :: es) (evs φ cs)) (hn : x ≠ "__name__") (hdb : (x == ("__debug__" : Str)) = false) (he : starEach (e :: es) X.env = (false, eval e X.env) :: starEach es X.env) (hpl : (backTo pos (starEach es X.env)).any (·.1) = false) :
    SE X W (.Call (.Name x p) (e :: es) [] pos) (ev φ (.bi f live cs)) := se_ct hc hg hm hv ha hn hdb he hpl
/-! methods of lists -/
theorem me_l {m : Me} {g : D → List D → Hq → Option (D × Hq)} {co : Ex} {cs : Exs} (hm : ∀ k, meFits m k = true → k = .lst) (hg : ∀ x ds h, meD .lst m x ds h = g x ds h) {σ : L2.St} {H : Hp} {Q : VK}
    (t : TEk X.K W (ev φ (.me m co cs)) σ H Q) : TEk X.K W (mthD m .lst g (ev φ co) (evs φ cs)) σ H Q := by
  obtain ⟨Fr, ρ, s, h, r, sr, ok⟩ := t
  refine ⟨Fr, ρ, s, h, r, sr, okR_bind.mpr ((okR_bind.mp (show okR _ _ ((ev φ co s h).bind _) from ok)).mono (fun p q => ?_) fun _ _ z => z)⟩
  have q : okR (Kont X.K Fr ρ H Q) (W.p Fr ρ H σ) (match meKind m p.1 p.2 with | some k => (evs φ cs s p.2).bind fun q => lift (meD k m p.1 q.1 q.2) | none => .stuck) := q
  cases e : meKind m p.1 p.2 with
  | none => rw [e] at q; exact q.elim
  | some k =>
    rw [e] at q
    have hk : k = .lst := hm k (by
      unfold meKind at e
      split at e
      · split at e
        · rename_i f; cases e; exact f
        · cases e
      · cases e)
    subst hk
    rw [if_pos rfl]
    refine okR_bind.mpr ((okR_bind.mp q).mono (fun p2 q2 => ?_) fun _ _ z => z)
    rw [hg] at q2
    exact q2
theorem w_bm {id : String} {o e : Expr} {es : List Expr} {name : Str} {apos : Pos} {m : Me} {g : D → List D → Hq → Option (D × Hq)} {co : Ex} {cs : Exs} (slot : Slot "list" name id) (hty : typeOf (.builtin id) = pure (.type "method_descriptor"))
    (hr : MtR X id (rM X.K g)) (hm : ∀ k, meFits m k = true → k = .lst) (hg : ∀ x ds h, meD .lst m x ds h = g x ds h) (ho : SE X W o (ev φ co)) (ha : SA X W (e :: es) (evs φ cs))
    (hbase : attributeBase o name X.env (eval o X.env) = eval o X.env)
    (hfew : ((backTo pos (starEach (e :: es) X.env)).all (fun x => !x.1) && (backToKw pos (keywordEach [] X.env)).all (fun x => x.1.isSome) && decide ((e :: es).length + ([] : List Keyword).length + (if ([] : List Keyword).isEmpty then 0 else 1) < 30)) = true)
    (hline : (apos.endLine == pos.line) = true) (hs : starEach (e :: es) X.env = (false, eval e X.env) :: starEach es X.env) (hplain : (backTo pos (starEach es X.env)).any (·.1) = false) :
    SE X W (.Call (.Attribute o name apos) (e :: es) [] pos) (ev φ (.me m co cs)) :=
  PE.imp (pe_bm PySem.F.plainAttrs_list slot hty hr ho ha hbase hfew hline hs hplain) fun σ H Q t => tM (fun _ _ _ _ _ _ r k e => ty_lst r k e) (me_l hm hg t)
theorem fit_append : ∀ k, meFits .append k = true → k = .lst := by intro k; cases k <;> simp [meFits]
theorem fit_popAt : ∀ k, meFits .popAt k = true → k = .lst := by intro k; cases k <;> simp [meFits]
/-! dicts -/
/-! what is walked, comprehensions -/
theorem w_iex {tg e : Expr} {ce : Ex} (he : SE X W e (ev φ ce)) : SI X W tg e (evIt φ (.ex ce)) := si_ex he
theorem w_range1 {tg e : Expr} {p : Pos} {ce : Ex} (hg : Gl X "range") (hm : X.mg "range" = none) (he : SE X W e (ev φ ce)) (hs : starEach [e] X.env = [(false, eval e X.env)]) : SI X W tg (.Call (.Name "range" p) [e] [] pos) (evIt φ (.range1 ce)) := si_range1 hg hm he hs
theorem w_ifs0 : STs X W [] (evIf φ .nil) := sts_nil
theorem w_ifs1 {c : Expr} {cc : Ex} (h : ST X W c (fun s h => testOf (ev φ cc s h))) : STs X W [c] (evIf φ (.cons cc .nil)) := sts_one h
def ownOf (N : List Str) (os : List Nat) : List (Str × Nat) := os.map fun i => ((N[i]?).getD "", i)
theorem ownOf_snd (N : List Str) : ∀ os : List Nat, (ownOf N os).map (·.2) = os
  | [] => rfl
  | i :: os => by
    show i :: (ownOf N os).map (·.2) = i :: os
    rw [ownOf_snd N os]
theorem w_comp {elt tg iter : Expr} {ifs : List Expr} {scope : Scope} {os : List Nat} {live : Bool} {c : Tg} {ci : It} {cf : Exs} {ce : Ex}
    (hc : X.calm = true) (hN : X.N.Nodup) (hi : SI X W tg iter (evIt φ ci)) (ok : blkC X.N X.env.scope scope (ownOf X.N os) = true)
    (hg : ∀ (s : Shared) (H : Hp) (C : Addr) (cl : List (Str × Addr)) (fp : List Addr), SG (X.blk s H scope (compEnvC scope cl C X.env) fp) tg c)
    (ht : ∀ (s : Shared) (H : Hp) (C : Addr) (cl : List (Str × Addr)) (fp : List Addr), STs (X.blk s H scope (compEnvC scope cl C X.env) fp) (EK.none X.K) ifs (evIf φ cf))
    (he : ∀ (s : Shared) (H : Hp) (C : Addr) (cl : List (Str × Addr)) (fp : List Addr), SE (X.blk s H scope (compEnvC scope cl C X.env) fp) (EK.none X.K) elt (ev φ ce))
    (hs : ∀ x, foldedSetIterable iter X.env x = pure x) (hsl : ∀ i ∈ c.slots, i ∈ os) :
    SE X W (.ListComp elt [⟨tg, iter, ifs, 0⟩] scope pos) (ev φ (.comp live c ci cf ce os)) := by
  have := se_comp (pos := pos) (live := live) hc hN hi (blkOk_by ok) hg ht he hs (by rw [ownOf_snd]; exact hsl)
  rw [ownOf_snd] at this
  exact this
theorem w_setLc {i : Nat} {y : Str} {py : Pos} {elt tg iter : Expr} {ifs : List Expr} {scope : Scope} {os : List Nat} {spos : Pos} {live : Bool} {c : Tg} {ci : It} {cf : Exs} {ce : Ex}
    (hc : X.calm = true) (hN : X.N.Nodup) (hy : X.N[i]? = some y) (hyl : X.env.scope.names.lookup y = some .local)
    (hsw : swapsWith (.ListComp elt [⟨tg, iter, ifs, 0⟩] scope pos) (some (.Name y py)) spos.line X.env = pure true) (hi : SI X W tg iter (evIt φ ci)) (ok : blkC X.N X.env.scope scope (ownOf X.N os) = true)
    (hg : ∀ (s : Shared) (H : Hp) (C : Addr) (cl : List (Str × Addr)) (fp : List Addr), SG (X.blk s H scope (compEnvC scope cl C X.env) fp) tg c)
    (ht : ∀ (s : Shared) (H : Hp) (C : Addr) (cl : List (Str × Addr)) (fp : List Addr), STs (X.blk s H scope (compEnvC scope cl C X.env) fp) (EK.none X.K) ifs (evIf φ cf))
    (he : ∀ (s : Shared) (H : Hp) (C : Addr) (cl : List (Str × Addr)) (fp : List Addr), SE (X.blk s H scope (compEnvC scope cl C X.env) fp) (EK.none X.K) elt (ev φ ce))
    (hs : ∀ x, foldedSetIterable iter X.env x = pure x) (hsl : ∀ i ∈ c.slots, i ∈ os) :
    SS X W (.Assign [.Name y py] (.ListComp elt [⟨tg, iter, ifs, 0⟩] scope pos) spos) (exS φ (.set (.name i) (.comp live c ci cf ce os))) := by
  have := ss_setLc (W := W) (pos := pos) (live := live) hc hN hy hyl hsw hi (blkOk_by ok) hg ht he hs (by rw [ownOf_snd]; exact hsl)
  rw [ownOf_snd] at this
  exact this
/-! statements -/
theorem w_nil : SB X W [] (exB φ .nil) := sb_nil
theorem w_cons {a : Stmt} {r : List Stmt} {ca : Sm} {cr : Sms} (h1 : SS X (EK.none X.K) a (exS φ ca)) (h2 : SB X (EK.none X.K) r (exB φ cr)) : SB X (EK.none X.K) (a :: r) (exB φ (.cons ca cr)) := by
  refine PSs.imp (sb_cons EK.none_flat h1 h2) fun Z σ H ⟨Fr, ρ, s, h, r, sr, ok⟩ => ⟨Fr, ρ, s, h, r, sr, okR_bind.mpr ((okR_bind.mp (show okR _ _ ((exS φ ca s h).bind _) from ok)).mono (fun f q => ?_) fun _ _ z => z)⟩
  cases f <;> exact q
theorem w_expr {e : Expr} {ce : Ex} (he : SE X W e (ev φ ce)) (hs : swapsWith e none pos.line X.env = pure false) : SS X W (.Expr e pos) (exS φ (.expr ce)) := ss_expr he hs
theorem w_ret {e : Expr} {ce : Ex} (he : SE X W e (ev φ ce)) : SS X W (.Return (some e) pos) (exS φ (.ret ce)) := ss_ret he
theorem w_ite {c : Expr} {a b : List Stmt} {cc : Ex} {ca cb : Sms} (hc : ST X W c (fun s h => testOf (ev φ cc s h))) (ha : SB X W a (exB φ ca)) (hb : SB X W b (exB φ cb)) : SS X W (.If c a b pos) (exS φ (.ite cc ca cb)) := ss_if hc ha hb
theorem w_asg {tg e : Expr} {c : Tg} {ce : Ex} (he : SE X W e (ev φ ce)) (hg : SG X tg c) (hs : swapsWithSole [tg] e pos.line X.env = pure false) (hw : swappedStores [tg] e X.env = pure none)
    (h1 : (assignEach [tg] X.env).map (·.2) = [assign tg X.env]) : SS X W (.Assign [tg] e pos) (exS φ (.set c ce)) := ss_asg he hg hs hw h1
theorem w_par {i j : Nat} {x y : Str} {a b : Expr} {px py pt : Pos} {kt k2 pt2} {cs : Exs} (hc : X.calm = true) (hN : X.N.Nodup) (hi : X.N[i]? = some x) (hj : X.N[j]? = some y) (hij : i ≠ j)
    (hx : X.env.scope.names.lookup x = some .local) (hy : X.env.scope.names.lookup y = some .local) (ha : SA X W [a, b] (evs φ cs))
    (hw : swappedStores [.Tuple [.Name x px, .Name y py] kt pt] (.Tuple [a, b] k2 pt2) X.env = pure (some [x, y]))
    (hs : swapsWithSole [.Tuple [.Name x px, .Name y py] kt pt] (.Tuple [a, b] k2 pt2) pos.line X.env = pure false) :
    SS X W (.Assign [.Tuple [.Name x px, .Name y py] kt pt] (.Tuple [a, b] k2 pt2) pos) (exS φ (.set (.tup (.cons (.name i) (.cons (.name j) .nil))) (.tup cs))) := ss_par hc hN hi hj hij hx hy ha hw hs
theorem w_setIx {o i e : Expr} {tpos : Pos} {co ci ce : Ex} (hu : X.A.units + 1 < cLine) (he : SE X W e (ev φ ce)) (ho : SE X (EK.none X.K) o (ev φ co)) (hi : SE X (EK.none X.K) i (ev φ ci)) (hs : swapsWithSole [.Subscript o i tpos] e pos.line X.env = pure false) (hw : swappedStores [.Subscript o i tpos] e X.env = pure none)
    (h1 : (assignEach [.Subscript o i tpos] X.env).map (·.2) = [assign (.Subscript o i tpos) X.env])
    (ha : ∀ v, assign (.Subscript o i tpos) X.env v = (do
      let ov ← holding [v] (eval o X.env)
      let iv ← holding [v, ov] (eval i X.env)
      standAt tpos
      holding [v, ov, iv] (setItem ov iv v)
      release [v, ov, iv] [])) :
    SS X W (.Assign [.Subscript o i tpos] e pos) (exS φ (.setIx co ci ce)) := ss_setIx (set_D hu) he ho hi hs hw h1 ha
theorem w_for {tg iter : Expr} {body : List Stmt} {c : Tg} {ci : It} {cb : Sms} (hc : X.calm = true) (hp : PassesOwn (model X.prog X.w) X.A X.env X.xe) (hi : SI X (EK.none X.K) tg iter (evIt φ ci)) (hg : SG X tg c) (hb : SB X (EK.none X.K) body (exB φ cb))
    (hs : ∀ x, foldedSetIterable iter X.env x = pure x) : SS X (EK.none X.K) (.For tg iter body [] pos) (exS φ (.for c ci cb)) := ss_for EK.none_flat hp hc hi hg hb hs
theorem w_while {t : Expr} {body : List Stmt} {ct : Ex} {cb : Sms} (hp : PassesOwn (model X.prog X.w) X.A X.env X.xe) (ht : ST X (EK.none X.K) t (fun s h => testOf (ev φ ct s h))) (hb : SB X (EK.none X.K) body (exB φ cb)) :
    SS X (EK.none X.K) (.While t body [] pos) (exS φ (.while ct cb)) := ss_while fuel EK.none_flat hp ht hb
/-! tests -/
theorem w_tcmp {op : CmpOp} {a b : Expr} {ca cb : Ex} (hu : X.A.units + 65 < cLine) (ha : SE X W a (ev φ ca)) (hb : SE X W b (ev φ cb)) (hm : behindInMarks op b = false) : ST X W (.Compare a [op] [b] pos) (fun s h => testOf (ev φ (.cmp op ca cb) s h)) := st_cmp hu ha hb hm
theorem w_twand {a b : Expr} {r : List Expr} {ca cb : Ex} (ha : ST X W a (fun s h => testOf (ev φ ca s h))) (hb : SW X W (.BoolOp .And (b :: r) pos) (fun s h => testOf (ev φ cb s h))) : SW X W (.BoolOp .And (a :: b :: r) pos) (fun s h => testOf (ev φ (.andV ca cb) s h)) := sw_and ha hb
theorem w_twor {a b : Expr} {r : List Expr} {ca cb : Ex} (ha : ST X W a (fun s h => testOf (ev φ ca s h))) (hb : SW X W (.BoolOp .Or (b :: r) pos) (fun s h => testOf (ev φ cb s h))) : SW X W (.BoolOp .Or (a :: b :: r) pos) (fun s h => testOf (ev φ (.orV ca cb) s h)) := sw_or ha hb
theorem w_tone_and {a : Expr} {ca : Ex} (ha : ST X W a (fun s h => testOf (ev φ ca s h))) : SW X W (.BoolOp .And [a] pos) (fun s h => testOf (ev φ ca s h)) := sw_one_and ha
theorem w_tone_or {a : Expr} {ca : Ex} (ha : ST X W a (fun s h => testOf (ev φ ca s h))) : SW X W (.BoolOp .Or [a] pos) (fun s h => testOf (ev φ ca s h)) := sw_one_or ha
theorem w_tbool {op : BoolOp} {es : List Expr} {ca : Ex} (h : SW X W (.BoolOp op es pos) (fun s h => testOf (ev φ ca s h))) : ST X W (.BoolOp op es pos) (fun s h => testOf (ev φ ca s h)) := PW.pt h
theorem w_tplain {a : Expr} {ca : Ex} (ha : SE X W a (ev φ ca)) (he : ∀ whole, isTrue a X.env whole = (do let v ← whole; standAt a.pos; holding [v] (truthy v))) : ST X W a (fun s h => testOf (ev φ ca s h)) := st_plain ha he
/-! calls -/
theorem w_call {k : Nat} {st : Stmt} {ps : List Str} {x : Str} {p : Pos} {e : Expr} {es : List Expr} {id : Nat} {cs : Exs} (C : Cal X.prog X.w X.K X.mg X.base k (φ id) st x ps) (hgd : X.A.guards = some []) (hr : Room k X.A) (hg : Gl X x)
    (hb : ∀ (kV doc pm : Value) (an : Option Addr) (cdv ct : Value) (us : List Value), us.length = ps.length → bindArgs (PySem.W.fnOf x x (defArgs st) (defBody st) (defScope st) .none kV doc pm an cdv ct) ⟨us, []⟩ = pure (ps.zip us))
    (ha : SA X (EK.none X.K) (e :: es) (evs φ cs)) (hdb : (x == ("__debug__" : Str)) = false) (he : starEach (e :: es) X.env = (false, eval e X.env) :: starEach es X.env) (hpl : (backTo pos (starEach es X.env)).any (·.1) = false) :
    SE X (EK.none X.K) (.Call (.Name x p) (e :: es) [] pos) (ev φ (.call id cs)) := se_call C hgd hr hg hb ha hdb he hpl
end
end FF

/-! FFZip: zip of two sequences, each a list or a tuple. -/
namespace FF
open PySem PySem.Spec PyProof.Rows L2
/-- true: a tuple, false: a list -/
def SeqB (K : PySem.W.Frag) (t : Bool) (H : Hp) (a : Addr) (xs : List V) : Prop := if t then SqT K H a xs else SqL K H a xs
def InB (t : Bool) (h : Heap) (a : Addr) (v : Array Value) : Prop := if t then h.IsTuple a v else h.IsList a v
def AtB (t : Bool) (h : Heap) (it a : Addr) (i : Nat) : Prop := if t then h.IsTupleIter it a i else h.IsListIter it a i
def itObj (t : Bool) (a : Addr) : Obj := { cls := .type (if t then "tuple_iterator" else "list_iterator"), data := .fields #[.ref a, .int 0 0] }
theorem drB {prog : Program} {w : World} {A : Around} (hh : A.handled = none) (t : Bool) (it a : Addr) (ne : a ≠ it) (v : Array Value) :
    Draws prog w A it [it, a] v.size (fun i x => v[i]? = some x) (fun i h => AtB t h it a i ∧ InB t h a v) := by
  cases t with
  | true => exact Draws.tuple hh it a ne v
  | false => exact Draws.list hh it a ne v
theorem begB (t : Bool) (a : Addr) (v : Array Value) : Begins (.ref a) (itObj t a) fun h => InB t h a v := by
  cases t with
  | true => exact begins_tuple a v
  | false => exact begins_list a v
theorem atB_new {t : Bool} {h : Heap} {it a : Addr} (e : h.get? it = some (itObj t a)) : AtB t h it a 0 := by
  cases t with
  | true => exact ⟨_, e, rfl, rfl⟩
  | false => exact ⟨_, e, rfl, rfl⟩
theorem atB_obj {t : Bool} {h : Heap} {it a : Addr} {i : Nat} (e : AtB t h it a i) : ∃ o, h.get? it = some o ∧ ∃ vs, o.data = .fields vs := by
  cases t with
  | true => obtain ⟨o, g, c, d⟩ := e; exact ⟨o, g, _, d⟩
  | false => obtain ⟨o, g, c, d⟩ := e; exact ⟨o, g, _, d⟩
theorem atB_keep {t : Bool} {h h' : Heap} {it a : Addr} {i : Nat} (e : AtB t h it a i) (k : ∀ o, h.get? it = some o → h'.get? it = some o) : AtB t h' it a i := by
  cases t with
  | true => obtain ⟨o, g, c⟩ := e; exact ⟨o, k o g, c⟩
  | false => obtain ⟨o, g, c⟩ := e; exact ⟨o, k o g, c⟩
theorem inB_lt {t : Bool} {h : Heap} {a : Addr} {v : Array Value} (e : InB t h a v) : a < h.objs.size := by
  cases t with
  | true => obtain ⟨o, g, _⟩ := e; exact Heap.lt_size g
  | false => obtain ⟨o, g, _⟩ := e; exact Heap.lt_size g
section
variable {X : Cx} {pins : List (Addr × Obj)} {σ : L2.St} {H : Hp} {s : Shared}
theorem seqB_at {t : Bool} {a : Addr} {xs : List V} (I : Inv X pins σ H s) (q : SeqB X.K t H a xs) : ∃ its, Vals xs its ∧ InB t s.heap a its.toArray := by
  cases t with
  | true => obtain ⟨its, rv, p, _⟩ := I.tuple q; exact ⟨its, rv, p⟩
  | false => obtain ⟨its, rv, p, _⟩ := I.list q; exact ⟨its, rv, p.isList⟩
theorem seqB_inj {t : Bool} {a : Addr} {xs ys : List V} (I : Inv X pins σ H s) (q : SeqB X.K t H a xs) (q2 : SeqB X.K t H a ys) : xs = ys := by
  cases t with
  | true => exact I.tuple_inj q q2
  | false => exact I.list_inj q q2
end
theorem sepB {z TI TO i1 i2 a b : Addr} (D : ZipApart z TI TO i1 i2 a b) : ZipSep2 z TI TO i1 i2 [i1, a] [i2, b] where
  TIz := D.TIz
  TOz := D.TOz
  TITO := D.TITO
  TIi1 := D.TIi1
  mem1 := List.mem_cons_self
  zf1 := by simp [D.i1z.symm, D.l1z.symm]
  Tf1 := by simp [D.TOi1, D.l1TO.symm]
  TIi2 := D.TIi2
  mem2 := List.mem_cons_self
  zf2 := by simp [D.i2z.symm, D.l2z.symm]
  Tf2 := by simp [D.TOi2, D.l2TO.symm]
  sep1_2 := by simp [D.i12, D.l2i1.symm]
  sep2_1 := by simp [D.i12.symm, D.l1i2.symm]
/-- the two sequences as they stand at a turn, their items in a new pair -/
def ItzB (K : PySem.W.Frag) (t u : Bool) (a b : Addr) : L2.It where
  go := fun i H => ∃ (xs ys : List V) (x y : V), SeqB K t H a xs ∧ SeqB K u H b ys ∧ xs[i]? = some x ∧ ys[i]? = some y
  yld := fun i H v H' => ∃ p x y, v = .ref p ∧ H p = none ∧ H' = upd H p (.tup [x, y]) ∧ (∀ xs, SeqB K t H a xs → xs[i]? = some x) ∧ ∀ ys, SeqB K u H b ys → ys[i]? = some y
  stop := fun i H => ∃ xs ys : List V, SeqB K t H a xs ∧ SeqB K u H b ys ∧ i = min xs.length ys.length
def ZipSt (t u : Bool) (z TI TO i1 i2 a b : Addr) (i : Nat) (h : Heap) : Prop :=
  IsZip h z TI TO .none ∧ IsTupOf2 h TI (.ref i1) (.ref i2) ∧ (∃ x y, IsTupOf2 h TO x y) ∧ AtB t h i1 a i ∧ AtB u h i2 b i
theorem five {α : Type} {P : α → Prop} {a b c d e : α} (h1 : P a) (h2 : P b) (h3 : P c) (h4 : P d) (h5 : P e) : ∀ x ∈ [a, b, c, d, e], P x := by
  intro x hx
  simp only [List.mem_cons, List.not_mem_nil, or_false] at hx
  rcases hx with rfl | rfl | rfl | rfl | rfl <;> assumption
theorem ne_five {z a b c d e : Addr} {x : Addr} (h : x ∉ [a, b, c, d, e]) : x ≠ a ∧ x ≠ b ∧ x ≠ c ∧ x ≠ d ∧ x ≠ e := by
  simp only [List.mem_cons, List.not_mem_nil, or_false, not_or] at h
  exact h
theorem zipB_turn {P : Program} {w : World} {K : PySem.W.Frag} {es : List Expr} {kk : Nat} {tp : Pos} {t u : Bool} {a b z TI TO i1 i2 : Addr} (D : ZipApart z TI TO i1 i2 a b) :
    Turn P w K (.Tuple es kk tp) (ItzB K t u a b) [z, TI, TO, i1, i2] z (ZipSt t u z TI TO i1 i2 a b) where
  mem := List.mem_cons_self
  obj := by
    intro i h ⟨hz, hI, ⟨x, y, hO⟩, q1, q2⟩
    obtain ⟨o1, g1, v1, d1⟩ := atB_obj q1
    obtain ⟨o2, g2, v2, d2⟩ := atB_obj q2
    exact five ⟨_, hz, fun v q => nomatch q⟩ ⟨_, hI, fun v q => nomatch q⟩ ⟨_, hO, fun v q => nomatch q⟩ ⟨o1, g1, fun v q => by rw [d1] at q; cases q⟩ ⟨o2, g2, fun v q => by rw [d2] at q; cases q⟩
  keep := by
    intro i h h' ⟨hz, hI, ⟨x, y, hO⟩, q1, q2⟩ k
    exact ⟨k z (by simp) _ hz, k TI (by simp) _ hI, ⟨x, y, k TO (by simp) _ hO⟩, atB_keep q1 fun o g => k i1 (by simp) o g, atB_keep q2 fun o g => k i2 (by simp) o g⟩
  item := by
    rintro X rfl rfl rfl cm i pins s σ H E I fr ⟨hz, hI, ⟨x0, y0, hO⟩, q1, q2⟩ ⟨xs, ys, x, y, sx, sy, ex, ey⟩
    obtain ⟨va, ra, pa⟩ := seqB_at I sx
    obtain ⟨vb, rb, pb⟩ := seqB_at I sy
    obtain ⟨m, em, rm⟩ := ra.get ex
    obtain ⟨n, en, rn⟩ := rb.get ey
    have em' : va.toArray[i]? = some m := by simpa using em
    have en' : vb.toArray[i]? = some n := by simpa using en
    have la : i < va.toArray.size := by have := (List.getElem?_eq_some_iff.mp em).1; simpa using this
    have lb : i < vb.toArray.size := by have := (List.getElem?_eq_some_iff.mp en).1; simpa using this
    refine wpAny_pyNext_zipD2_item (sepB D) (drB (A := X.A.in1) (I.ok.hd cm) t i1 a D.l1i1 va.toArray) (drB (A := X.A.in1) (I.ok.hd cm) u i2 b D.l2i2 vb.toArray) hz hI hO ⟨q1, pa⟩ ⟨q2, pb⟩ la lb ?_
    intro m' n' h1 tk f1 f2 hz1 hO1 st1 st2 hp sz kp
    have : m' = m := Option.some.inj ((show va.toArray[i]? = some m' from f1).symm.trans em')
    subst this
    have : n' = n := Option.some.inj ((show vb.toArray[i]? = some n' from f2).symm.trans en')
    subst this
    refine ⟨_, rfl, wpAny_letOwnedTupleGo_zip (s := { s with heap := h1, toks := tk }) hz1 fun h2 hz2 sb => ?_⟩
    have zl : z < s.heap.objs.size := Heap.lt_size hz
    have at2 := (sb.2 _ (Nat.ne_of_gt zl)).trans hp
    have ok : ObjOk X.prog X.w (upd H s.heap.objs.size (.tup [x, y])) h2 s.heap.objs.size (.tup [x, y]) :=
      ⟨by show 2 ≤ sizeLine; decide, [m', n'], .cons rm (.cons rn .nil), _, at2, rfl, _, rfl⟩
    have J := I.turnedNew (ch := [z, TI, TO, i1, i2]) (t' := tk) (fun c ob hb q => by
      obtain ⟨c1, c2, c3, c4, c5⟩ := ne_five (z := z) hb
      exact (sb.2 c c1).trans (kp c ob c1 c3 c4 c5 q)) fr (Nat.le_refl _) ok
    refine ⟨.ref s.heap.objs.size, _, J, rfl, ⟨_, x, y, rfl, I.hok.fresh (Nat.le_refl _), rfl, fun l hl => ?_, fun l hl => ?_⟩, ⟨hz2, (sb.2 _ D.TIz).trans (kp _ _ D.TIz D.TITO D.TIi1 D.TIi2 hI), ⟨m', n', (sb.2 _ D.TOz).trans hO1⟩, atB_keep st1.1 fun o q => (sb.2 _ D.i1z).trans q, atB_keep st2.1 fun o q => (sb.2 _ D.i2z).trans q⟩, ?_⟩
    · rw [seqB_inj I hl sx]; exact ex
    · rw [seqB_inj I hl sy]; exact ey
    · intro c hc
      have lt : c < s.heap.objs.size := by
        obtain ⟨o1, g1, _⟩ := atB_obj q1
        obtain ⟨o2, g2, _⟩ := atB_obj q2
        exact five (P := fun c => c < s.heap.objs.size) zl (Heap.lt_size hI) (Heap.lt_size hO) (Heap.lt_size g1) (Heap.lt_size g2) c hc
      rw [upd_ne (Nat.ne_of_lt lt)]
      exact (fr c hc).1
  done := by
    rintro X rfl rfl rfl cm i pins s σ H E I fr ⟨hz, hI, ⟨x0, y0, hO⟩, q1, q2⟩ ⟨xs, ys, sx, sy, ei⟩
    obtain ⟨va, ra, pa⟩ := seqB_at I sx
    obtain ⟨vb, rb, pb⟩ := seqB_at I sy
    have na := ra.length
    have nb := rb.length
    have sa : va.toArray.size = va.length := List.size_toArray ..
    have sb : vb.toArray.size = vb.length := List.size_toArray ..
    refine wpAny_pyNext_zipD2_end (sepB D) (drB (A := X.A.in1) (I.ok.hd cm) t i1 a D.l1i1 va.toArray) (drB (A := X.A.in1) (I.ok.hd cm) u i2 b D.l2i2 vb.toArray) hz hI hO ⟨q1, pa⟩ ⟨q2, pb⟩ (by omega) (by omega) (by omega) fun h1 tk kp => ?_
    exact ⟨rfl, I.turnedL (t' := tk) (ch := [z, TI, TO, i1, i2]) (fun c ob hb q => by
      obtain ⟨c1, c2, c3, c4, c5⟩ := ne_five (z := z) hb
      exact kp c ob c1 c3 c4 c5 q) fr⟩
  self := fun A i s Q E st k => wpAny_pyIter_zip st.1 k
def iZipB (K : PySem.W.Frag) (ta : TA) : TI := fun σ H R => ta σ H fun vs H1 => ∃ t u a b xs ys, vs = [.ref a, .ref b] ∧ SeqB K t H1 a xs ∧ SeqB K u H1 b ys ∧ R (ItzB K t u a b) H1
theorem pi_zipB {X : Cx} {e e2 : Expr} {ta : TA} {p pos tp : Pos} {es : List Expr} {kk : Nat} (hg : Gl X "zip") (hm : X.mg "zip" = none) (ha : PA X [e, e2] ta)
    (hs : starEach [e, e2] X.env = (false, eval e X.env) :: starEach [e2] X.env) (hpl : (backTo pos (starEach [e2] X.env)).any (·.1) = false) :
    PI X (.Tuple es kk tp) (.Call (.Name "zip" p) [e, e2] [] pos) (iZipB X.K ta) := by
  refine ⟨fun pins s σ H R I h => Call_ (ld_blt I hg hm PyProof.Rows.boot_zip (PyProof.Rows.callWith_type1 (thn (ha.run pos pins s σ H _ I h) ?_) hs hpl))⟩
  rintro us s1 ⟨vs, H1, J, r1, t, u, a, b, xs, ys, rfl, sx, sy, q⟩
  cases r1 with
  | cons r rr =>
    cases rr with
    | cons r' rr =>
      cases rr; cases r; cases r'
      obtain ⟨va, ra, pa⟩ := seqB_at J sx
      obtain ⟨vb, rb, pb⟩ := seqB_at J sy
      refine zip_begins2 (begB t a va.toArray) (begB u b vb.toArray) pa pb fun h' hz hI hO g1 g2 sz kp => wpAny_pyIter_zip hz ?_
      have J2 : Inv X pins σ H1 { s1 with heap := h' } := J.kept (t' := s1.toks) kp
      refine ⟨s1.heap.objs.size + 4, [s1.heap.objs.size + 4, s1.heap.objs.size + 2, s1.heap.objs.size + 3, s1.heap.objs.size, s1.heap.objs.size + 1], _, _, H1, rfl, J2, zipB_turn (PySem.W.ktu_apart s1.heap.objs.size a b (inB_lt pa) (inB_lt pb)), ⟨hz, hI, ⟨_, _, hO⟩, atB_new g1, atB_new g2⟩, ?_, q⟩
      have up : ∀ c, s1.heap.objs.size ≤ c → FpOk X pins H1 c := fun c le => J.fpOk le (J.hok.fresh le)
      exact five (up _ (by omega)) (up _ (by omega)) (up _ (by omega)) (up _ (by omega)) (up _ (by omega))
theorem zip_get {xs ys : List D} {i : Nat} {d : D} (e : ((xs.zip ys).map fun p => D.tup [p.1, p.2])[i]? = some d) : ∃ x y, xs[i]? = some x ∧ ys[i]? = some y ∧ d = .tup [x, y] := by
  rw [List.getElem?_map] at e
  cases q : (xs.zip ys)[i]? with
  | none => rw [q] at e; cases e
  | some p =>
    rw [q] at e
    obtain ⟨x, y⟩ := p
    obtain ⟨h1, h2⟩ := List.getElem?_zip_eq_some.mp q
    exact ⟨x, y, h1, h2, (Option.some.inj e).symm⟩
theorem iw_zipB {K : PySem.W.Frag} {Fr ρ0 : List Addr} {H0 : Hp} {a b : Addr} {xs ys : List D} {w : Watch} {t u : Bool}
    (at1 : ∀ Fr' ρ H h, (∀ a ∈ Fr', a ∈ Fr ∨ H0 a = none) → Ext ρ0 H0 ρ H → HR K Fr' ρ h H → stands h w = true → ∃ vs, SeqB K t H a vs ∧ RDs K Fr' ρ H xs vs)
    (at2 : ∀ Fr' ρ H h, (∀ a ∈ Fr', a ∈ Fr ∨ H0 a = none) → Ext ρ0 H0 ρ H → HR K Fr' ρ h H → stands h w = true → ∃ vs, SeqB K u H b vs ∧ RDs K Fr' ρ H ys vs) :
    IW K Fr (ItzB K t u a b) ρ0 H0 ((xs.zip ys).map fun p => .tup [p.1, p.2]) w := by
  intro Fr' i ρ H h hf x r st
  obtain ⟨vs, s1, q1⟩ := at1 Fr' ρ H h hf x r st
  obtain ⟨us, s2, q2⟩ := at2 Fr' ρ H h hf x r st
  refine ⟨fun d e => ?_, fun e => ⟨vs, us, s1, s2, ?_⟩⟩
  · obtain ⟨d1, d2, e1, e2, rfl⟩ := zip_get e
    obtain ⟨v, f1, k1⟩ := q1.get e1
    obtain ⟨u, f2, k2⟩ := q2.get e2
    refine ⟨⟨vs, us, v, u, s1, s2, f1, f2⟩, fun z H' yl => ?_⟩
    obtain ⟨p, x1, y1, rfl, hp, rfl, g1, g2⟩ := yl
    have z1 := g1 vs s1
    have z2 := g2 us s2
    rw [f1] at z1; cases z1
    rw [f2] at z2; cases z2
    have xe : Ext ρ H ρ (upd H p (.tup [v, u])) := ext_new hp
    refine ⟨xe, r.new hp, ?_, fun a o e => by rw [upd_ne (ne_of_none e hp)]; exact e⟩
    unfold RD
    exact ⟨p, _, rfl, upd_same, (r.fresh hp).1, .cons (RD.mono xe _ _ k1) (.cons (RD.mono xe _ _ k2) .nil)⟩
  · rw [List.length_map, List.length_zip] at e
    rw [← q1.length, ← q2.length]
    exact e
/-- a sequence, now and later -/
theorem seq_later {K : PySem.W.Frag} {Fr ρ0 : List Addr} {H0 : Hp} {h0 : Hq} (r0 : HR K Fr ρ0 h0 H0) {d : D} {v : V} {xs : List D} (k : RD K Fr ρ0 H0 d v) (e : itemsOf h0 d = some xs) :
    ∃ t a, v = .ref a ∧ (∃ vs, SeqB K t H0 a vs) ∧ ∀ w Fr' ρ H h, (∀ p ∈ watchOf d xs, p ∈ w) → (∀ a ∈ Fr', a ∈ Fr ∨ H0 a = none) → Ext ρ0 H0 ρ H → HR K Fr' ρ h H → stands h w = true → ∃ vs, SeqB K t H a vs ∧ RDs K Fr' ρ H xs vs := by
  cases hx : isTupD d with
  | true =>
    obtain ⟨a1, rfl, ⟨v1, s1⟩, l1⟩ := tup_later k e hx
    exact ⟨true, a1, rfl, ⟨v1, s1⟩, fun w Fr' ρ H h hw hf x r _ => l1 Fr' ρ H h hf x r⟩
  | false =>
    obtain ⟨a1, rfl, ⟨v1, s1⟩, l1⟩ := lst_later r0 k e hx
    exact ⟨false, a1, rfl, ⟨v1, s1⟩, l1⟩
section
variable {X : Cx} {pos : Pos}
theorem si_zip {W : EK X.K} {elts : List Expr} {kk : Nat} {tpos p : Pos} {a b : Expr} {fa fb : Env' → Hq → R (D × Hq)} (hg : Gl X "zip") (hm : X.mg "zip" = none) (ha : SE X W a fa) (hb : SE X W b fb)
    (hs : starEach [a, b] X.env = (false, eval a X.env) :: starEach [b] X.env) (hs2 : starEach [b] X.env = (false, eval b X.env) :: starEach [] X.env) (hpl : (backTo pos (starEach [b] X.env)).any (·.1) = false) :
    SI X W (.Tuple elts kk tpos) (.Call (.Name "zip" p) [a, b] [] pos) (fun s h => (fa s h).bind fun p => (fb s p.2).bind fun q => lift (zipD p.1 q.1 q.2)) := by
  refine PI.imp (pi_zipB hg hm (pa_cons ha (pa_cons hb pa_nil hs2) hs) hs hpl) fun σ H Rr ⟨Fr, ρ, s, h, r, sr, ok⟩ => ?_
  refine ⟨Fr, ρ, s, h, r, sr, (okR_bind.mp ok).mono (fun p q v ρ1 H1 x1 r1 d1 => ?_) fun _ _ z => z⟩
  refine ⟨Fr, ρ1, s, p.2, r1, sr.mono x1, (okR_bind.mp q).mono (fun p2 q2 v2 ρ2 H2 x2 r2 d2 => ?_) fun _ _ z => W.mono x1 r1 z⟩
  obtain ⟨y, e, k⟩ := okR_lift q2
  have d1 := RD.mono x2 _ _ d1
  have x12 := x1.step r1 x2
  unfold zipD at e
  split at e
  · rename_i xs ys e1 e2
    cases e
    obtain ⟨t, a1, rfl, ⟨v1, s1⟩, l1⟩ := seq_later r2 d1 e1
    obtain ⟨u, a2, rfl, ⟨v2, s2⟩, l2⟩ := seq_later r2 d2 e2
    refine ⟨t, u, a1, a2, v1, v2, rfl, s1, s2, k _ ρ2 H2 x12 r2 ?_⟩
    exact iw_zipB (fun Fr' ρ H h hf x r st => l1 _ Fr' ρ H h (fun p hp => List.mem_append_left _ hp) hf x r st) (fun Fr' ρ H h hf x r st => l2 _ Fr' ρ H h (fun p hp => List.mem_append_right _ hp) hf x r st)
  · cases e
theorem w_zip {W : EK X.K} {φ : Fn} {elts : List Expr} {kk : Nat} {tpos p : Pos} {a b : Expr} {ca cb : Ex} (hg : Gl X "zip") (hm : X.mg "zip" = none) (ha : SE X W a (ev φ ca)) (hb : SE X W b (ev φ cb))
    (hs : starEach [a, b] X.env = (false, eval a X.env) :: starEach [b] X.env) (hs2 : starEach [b] X.env = (false, eval b X.env) :: starEach [] X.env) (hpl : (backTo pos (starEach [b] X.env)).any (·.1) = false) :
    SI X W (.Tuple elts kk tpos) (.Call (.Name "zip" p) [a, b] [] pos) (evIt φ (.zip ca cb)) := si_zip hg hm ha hb hs hs2 hpl
end
end FF

/-! FFEnum: enumerate over whatever begins as told. -/
namespace FF
open PySem PySem.Spec PyProof.Rows
theorem enum_new1 {v : Value} {o : Obj} {G : Heap → Prop} (B : Begins v o G) :
    Meets (Builtin.«enumerate.__new__» ⟨[.type "enumerate", v], []⟩) (fun _ R s => G s.heap ∧
      R (.ok (.ret (.ref (s.heap.push o).objs.size))) { s with heap := (s.heap.push o).push { cls := .type "enumerate", data := .fields #[.none, .bool false, .ref s.heap.objs.size, rawInt 0, .none, .none] } }) :=
  .of_wp fun P w A R s ⟨g1, k⟩ => by
    obtain ⟨hp, g, d, tk, os⟩ := s
    have sub := sub_enumerate
    have go : ∀ {A' : Around} {E Q : Value → Shared → Prop}, Q (.ref hp.objs.size) ⟨hp.push o, g, d, tk, os⟩ → wpAny (model P w) A' (pyIter v) Q E ⟨hp, g, d, tk, os⟩ := fun q => B.iter P w _ _ ⟨hp, g, d, tk, os⟩ _ g1 q
    wp_walk using go
    refine wpAny_stack_any fun st => wpAny_pure ?_
    split
    · rename_i c _ _ _ _ _
      cases (c == Value.type "enumerate") <;> (wp_walk using go; exact ⟨_, rfl, k⟩)
    · wp_walk using go
      exact ⟨_, rfl, k⟩
theorem call_enum1 {P : Program} {w : World} {A : Around} {E : Value → Shared → Prop} {s : Shared} {v : Value} {o : Obj} {G : Heap → Prop} {Q : Value → Shared → Prop} (B : Begins v o G) (g : G s.heap)
    (k : ∀ h', IsEnum h' (s.heap.objs.size + 1) s.heap.objs.size 0 .none → h'.get? s.heap.objs.size = some o → (∀ b o, s.heap.get? b = some o → h'.get? b = some o) → Q (.ref (s.heap.objs.size + 1)) { s with heap := h' }) :
    wpAny (model P w) A (call (.type "enumerate") [v]) Q E s := by
  refine callType_new F.called_enumerate (by decide) (F.typeCall_enumerate_1 _) (F.newCall_enumerate_1 _) (fun obj => F.args_object_init_2 obj _) F.entry_enumerate_new (enum_new1 B) ⟨g, ?_⟩
  have sz : (s.heap.push o).objs.size = s.heap.objs.size + 1 := Heap.size_push ..
  show _ ∧ _
  rw [sz]
  have ie : IsEnum ((s.heap.push o).push { cls := .type "enumerate", data := .fields #[.none, .bool false, .ref s.heap.objs.size, rawInt 0, .none, .none] }) (s.heap.objs.size + 1) s.heap.objs.size 0 .none := by
    have q := Heap.get?_push_size (s.heap.push o) (o := { cls := .type "enumerate", data := .fields #[.none, .bool false, .ref s.heap.objs.size, rawInt 0, .none, .none] }) rfl
    rw [sz] at q; exact q
  exact ⟨⟨_, ie, rfl⟩, k _ ie (Heap.get?_push_of_some _ (Heap.get?_push_size _ B.free)) fun b o x => Heap.get?_push_of_some _ (Heap.get?_push_of_some _ x)⟩
open L2 in
/-- the tuple at a as it stands, each item in a new pair -/
def IteT (K : PySem.W.Frag) (a : Addr) : L2.It :=
  ⟨fun i H => ∃ (xs : List V) (x : V), SqT K H a xs ∧ xs[i]? = some x, fun i H v H' => ∃ p x, v = .ref p ∧ H p = none ∧ H' = upd H p (.tup [.int (i : Nat), x]) ∧ ∀ xs, SqT K H a xs → xs[i]? = some x, fun i H => ∃ xs : List V, SqT K H a xs ∧ xs.length = i⟩
open L2 in
theorem enumT_turn {P : Program} {w : World} {K : PySem.W.Frag} {es : List Expr} {kk : Nat} {tp : Pos} (a e it : Addr) :
    Turn P w K (.Tuple es kk tp) (IteT K a) [e, it] e (fun i h => (∃ old, IsEnum h e it ((i : Nat) : Int) old) ∧ h.IsTupleIter it a i ∧ e ≠ it) where
  mem := List.mem_cons_self
  obj := fun i h ⟨⟨old, he⟩, ⟨o, ho, hc, hd⟩, _⟩ b hb => by
    rcases List.mem_cons.mp hb with rfl | hb
    · exact ⟨_, he, fun v q => nomatch q⟩
    · rw [List.mem_singleton] at hb; subst hb
      exact ⟨o, ho, fun v q => by rw [hd] at q; cases q⟩
  keep := fun i h h' ⟨⟨old, he⟩, hi, ne⟩ kp => ⟨⟨old, kp e List.mem_cons_self _ he⟩, hi.at fun o q => kp it (List.mem_cons_of_mem _ List.mem_cons_self) o q, ne⟩
  item := by
    rintro X rfl rfl rfl cm i pins s σ H E I fr ⟨⟨old, he⟩, hit, ne⟩ ⟨xs, x, hq, hx⟩
    obtain ⟨its, rv, tp1, hz⟩ := I.tuple hq
    obtain ⟨u, hu, ru⟩ := rv.get hx
    have tup : s.heap.IsTuple a its.toArray := tp1
    have a_it : a ≠ it := by
      rintro rfl
      obtain ⟨o1, g1, c1, _⟩ := tup
      obtain ⟨o2, g2, c2, _⟩ := hit
      rw [g1] at g2; cases g2; rw [c1] at c2; exact absurd c2 (by simp)
    have a_e : e ≠ a := by
      rintro rfl
      obtain ⟨o1, g1, c1, _⟩ := tup
      rw [he] at g1; cases g1; exact absurd c1 (by simp)
    have hl : i < its.toArray.size := by
      have := (List.getElem?_eq_some_iff.mp hu).1
      simpa using this
    have e_lt : e < s.heap.objs.size := Heap.lt_size he
    have it_lt : it < s.heap.objs.size := by obtain ⟨_, q, _⟩ := hit; exact Heap.lt_size q
    refine wpAny_pyNext_enum_itemD (Draws.tuple (A := X.A.in1) (I.ok.hd cm) it a a_it its.toArray) he ⟨hit, tup⟩ hl ne (by simp [ne, a_e]) fun y h1 tk hy out st2 new sz kp => ?_
    have yu : y = u := by
      have q : its.toArray[i]? = some y := hy
      have q2 : its.toArray[i]? = some u := by simpa using hu
      rw [q] at q2; exact Option.some.inj q2
    subst yu
    refine ⟨_, rfl, wpAny_letOwnedTupleGo_enum (s := { s with heap := h1, toks := tk + 1 }) out fun h2 e2 sb => ?_⟩
    have at2 := (sb.2 _ (Nat.ne_of_gt e_lt)).trans new
    have ok : ObjOk X.prog X.w (upd H s.heap.objs.size (.tup [.int (i : Nat), x])) h2 s.heap.objs.size (.tup [.int (i : Nat), x]) :=
      ⟨by show 2 ≤ sizeLine; decide, [.int i tk, y], .cons ⟨_, rfl⟩ (.cons ru .nil), _, at2, rfl, _, rfl⟩
    have J := I.turnedNew (ch := [e, it]) (t' := tk + 1) (fun b ob hb q => (sb.2 b (fun z => hb (by simp [z]))).trans (kp b ob (fun z => hb (by simp [z])) (fun z => hb (by simp [z])) q)) fr (Nat.le_refl _) ok
    refine ⟨.ref s.heap.objs.size, _, J, rfl, ⟨_, x, rfl, I.hok.fresh (Nat.le_refl _), rfl, fun ys hy2 => ?_⟩, ⟨⟨y, ?_⟩, st2.1.at fun o q => (sb.2 it (Ne.symm ne)).trans q, ne⟩, fun b hb => ?_⟩
    · rw [I.tuple_inj hy2 hq]; exact hx
    · rw [show ((i + 1 : Nat) : Int) = (i : Int) + 1 by omega]; exact e2
    · have lt : b < s.heap.objs.size := by
        rcases List.mem_cons.mp hb with rfl | hb
        · exact e_lt
        · rw [List.mem_singleton] at hb; subst hb; exact it_lt
      rw [upd_ne (Nat.ne_of_lt lt)]
      exact (fr b hb).1
  done := by
    rintro X rfl rfl rfl cm i pins s σ H E I fr ⟨⟨old, he⟩, hit, ne⟩ ⟨xs, hq, hx⟩
    obtain ⟨its, rv, tp1, hz⟩ := I.tuple hq
    have tup : s.heap.IsTuple a its.toArray := tp1
    have a_it : a ≠ it := by
      rintro rfl
      obtain ⟨o1, g1, c1, _⟩ := tup
      obtain ⟨o2, g2, c2, _⟩ := hit
      rw [g1] at g2; cases g2; rw [c1] at c2; exact absurd c2 (by simp)
    have n_i : its.toArray.size = i := by
      have := rv.length
      rw [List.size_toArray]; omega
    obtain ⟨f0, f1, f2, f3, f4, f5⟩ := fr it (List.mem_cons_of_mem _ List.mem_cons_self)
    exact wpAny_pyNext_enum_endD (Draws.tuple (A := X.A.in1) (I.ok.hd cm) it a a_it its.toArray) he ⟨n_i ▸ hit, tup⟩ fun h1 eb => ⟨rfl, I.turned (t' := s.toks) (fun b o hb q => eb b o hb q) f0 f1 f3 f4 f5⟩
  self := fun A i s Q E ⟨⟨_, he⟩, _⟩ k => wpAny_pyIter_enum he k
open L2 in
theorem pi_enumT {X : Cx} {e : Expr} {ta : TA} {p pos tp : Pos} {es : List Expr} {kk : Nat} (hg : Gl X "enumerate") (hm : X.mg "enumerate" = none) (ha : PA X [e] ta) (hs : starEach [e] X.env = [(false, eval e X.env)]) :
    PI X (.Tuple es kk tp) (.Call (.Name "enumerate" p) [e] [] pos) (fun σ H R => ta σ H fun vs H1 => ∃ a xs, vs = [.ref a] ∧ SqT X.K H1 a xs ∧ R (IteT X.K a) H1) := by
  refine ⟨fun pins s σ H R I h => Call_ (ld_blt I hg hm boot_enumerate (PyProof.Rows.callWith_type1 (thn (ha.run pos pins s σ H _ I h) ?_) hs rfl))⟩
  rintro us s1 ⟨vs, H1, J, r1, a, xs, rfl, hq, q⟩
  cases r1 with
  | cons r rr =>
    cases rr
    cases r
    obtain ⟨its, rv, tp1, hz⟩ := J.tuple hq
    have tup : s1.heap.IsTuple a its.toArray := tp1
    refine call_enum1 (begins_tuple a its.toArray) tup fun h' ie it kp => wpAny_pyIter_enum ie ?_
    have J2 : Inv X pins σ H1 { s1 with heap := h' } := J.kept (t' := s1.toks) kp
    refine ⟨s1.heap.objs.size + 1, [s1.heap.objs.size + 1, s1.heap.objs.size], _, _, H1, rfl, J2, enumT_turn a (s1.heap.objs.size + 1) s1.heap.objs.size, ⟨⟨.none, ie⟩, ⟨_, it, rfl, rfl⟩, Nat.succ_ne_self _⟩, fun b hb => ?_, q⟩
    have le : s1.heap.objs.size ≤ b := by
      rcases List.mem_cons.mp hb with rfl | hb
      · exact Nat.le_succ _
      · rw [List.mem_singleton] at hb; exact Nat.le_of_eq hb.symm
    exact J.fpOk le (J.hok.fresh le)
end FF

/-! FFEnum2: enumerate, reckoned. -/
namespace FF
open PySem PySem.Spec PyProof.Rows L2
theorem enum_get {xs : List D} {i : Nat} {d : D} (e : (enumL xs)[i]? = some d) : ∃ x, xs[i]? = some x ∧ d = .tup [.int (i : Nat), x] := by
  unfold enumL at e
  rw [List.getElem?_map, List.getElem?_zipIdx] at e
  cases q : xs[i]? with
  | none => rw [q] at e; cases e
  | some x => rw [q] at e; simp at e; exact ⟨x, rfl, e.symm⟩
theorem enumL_len (xs : List D) : (enumL xs).length = xs.length := by unfold enumL; simp
theorem iw_enum {K : PySem.W.Frag} {Fr ρ0 : List Addr} {H0 : Hp} {a : Addr} {xs : List D} {w : Watch} {J : L2.It} (T : Hp → Addr → List V → Prop)
    (hgo : ∀ i H xs x, T H a xs → xs[i]? = some x → J.go i H) (hst : ∀ H xs, T H a xs → J.stop xs.length H)
    (hy : ∀ i H v H', J.yld i H v H' → ∃ p x, v = .ref p ∧ H p = none ∧ H' = upd H p (.tup [.int (i : Nat), x]) ∧ ∀ xs, T H a xs → xs[i]? = some x)
    (at1 : ∀ Fr' ρ H h, (∀ a ∈ Fr', a ∈ Fr ∨ H0 a = none) → Ext ρ0 H0 ρ H → HR K Fr' ρ h H → stands h w = true → ∃ vs, T H a vs ∧ RDs K Fr' ρ H xs vs) : IW K Fr J ρ0 H0 (enumL xs) w := by
  intro Fr' i ρ H h hf x r st
  obtain ⟨vs, s1, q1⟩ := at1 Fr' ρ H h hf x r st
  refine ⟨fun d e => ?_, fun e => ?_⟩
  · obtain ⟨d1, e1, rfl⟩ := enum_get e
    obtain ⟨v, f1, k1⟩ := q1.get e1
    refine ⟨hgo i H vs v s1 f1, fun z H' yl => ?_⟩
    obtain ⟨p, x1, rfl, hp, rfl, g1⟩ := hy _ _ _ _ yl
    have z1 := g1 vs s1
    rw [f1] at z1; cases z1
    have xe : Ext ρ H ρ (upd H p (.tup [.int (i : Nat), v])) := ext_new hp
    refine ⟨xe, r.new hp, ?_, fun a o e => by rw [upd_ne (ne_of_none e hp)]; exact e⟩
    unfold RD
    exact ⟨p, _, rfl, upd_same, (r.fresh hp).1, .cons (by unfold RD; rfl) (.cons (RD.mono xe _ _ k1) .nil)⟩
  · rw [enumL_len, q1.length] at e
    rw [e]
    exact hst H vs s1
end FF

/-! FFEnum3: enumerate, the rule. -/
namespace FF
open PySem PySem.Spec PyProof.Rows L2
section
variable {X : Cx} {pos : Pos}
theorem enD_seq {d : D} {h : Hq} {p : Its'} (e : enD d h = some p) : ∃ xs, itemsOf h d = some xs ∧ p = (enumL xs, watchOf d xs, h) := by
  unfold enD at e
  split at e
  · cases e
  · rename_i ns
    cases q : itD d h with
    | none => rw [q] at e; cases e
    | some r =>
      rw [q] at e
      obtain ⟨xs, e1, rfl⟩ := itD_seq q (by simpa using ns)
      exact ⟨xs, e1, (Option.some.inj e).symm⟩
theorem si_enum {W : EK X.K} {elts : List Expr} {kk : Nat} {tpos p : Pos} {a : Expr} {fa : Env' → Hq → R (D × Hq)} (hg : Gl X "enumerate") (hm : X.mg "enumerate" = none) (ha : SE X W a fa) (hs : starEach [a] X.env = [(false, eval a X.env)]) :
    SI X W (.Tuple elts kk tpos) (.Call (.Name "enumerate" p) [a] [] pos) (fun s h => (fa s h).bind fun p => lift (enD p.1 p.2)) := by
  have pa := pa_cons ha pa_nil (by rw [hs]; rfl)
  refine PI.imp (PI.or (pi_enum hg hm pa hs) (pi_enumT hg hm pa hs)) fun σ H Rr ⟨Fr, ρ, s, h, r, sr, ok⟩ => ?_
  have ok : okR _ _ ((fa s h).bind fun p => lift (enD p.1 p.2)) := ok
  cases ef : fa s h with
  | stuck => rw [ef] at ok; exact ok.elim
  | exc e q =>
    refine .inl ⟨Fr, ρ, s, h, r, sr, ?_⟩
    show okR _ _ (fa s h)
    rw [ef] at ok ⊢
    exact ok
  | ok p =>
    cases hx : isTupD p.1 with
    | true =>
      refine .inr ⟨Fr, ρ, s, h, r, sr, ?_⟩
      show okR _ _ (fa s h)
      rw [ef] at ok ⊢
      intro v ρ1 H1 x1 r1 d1
      obtain ⟨y, e, k⟩ := okR_lift (show okR _ _ (lift (enD p.1 p.2)) from ok)
      obtain ⟨xs, e1, rfl⟩ := enD_seq e
      obtain ⟨a1, rfl, ⟨v1, s1⟩, l1⟩ := tup_later d1 e1 hx
      refine ⟨a1, v1, rfl, s1, k _ ρ1 H1 x1 r1 ?_⟩
      exact iw_enum (fun H a vs => SqT X.K H a vs) (fun i H xs x q1 q2 => ⟨xs, x, q1, q2⟩) (fun H xs q => ⟨xs, q, rfl⟩) (fun _ _ _ _ q => q) (fun Fr' ρ H h hf x r _ => l1 Fr' ρ H h hf x r)
    | false =>
      refine .inl ⟨Fr, ρ, s, h, r, sr, ?_⟩
      show okR _ _ (fa s h)
      rw [ef] at ok ⊢
      intro v ρ1 H1 x1 r1 d1
      obtain ⟨y, e, k⟩ := okR_lift (show okR _ _ (lift (enD p.1 p.2)) from ok)
      obtain ⟨xs, e1, rfl⟩ := enD_seq e
      obtain ⟨a1, rfl, ⟨v1, s1⟩, l1⟩ := lst_later r1 d1 e1 hx
      refine ⟨a1, v1, rfl, s1, k _ ρ1 H1 x1 r1 ?_⟩
      exact iw_enum (fun H a vs => SqL X.K H a vs) (fun i H xs x q1 q2 => ⟨xs, x, q1, q2⟩) (fun H xs q => ⟨xs, q, Nat.le_refl _⟩) (fun _ _ _ _ q => q) (fun Fr' ρ H h hf x r st => l1 _ Fr' ρ H h (fun p hp => hp) hf x r st)
theorem w_enum {W : EK X.K} {φ : Fn} {elts : List Expr} {kk : Nat} {tpos p : Pos} {a : Expr} {ca : Ex} (hg : Gl X "enumerate") (hm : X.mg "enumerate" = none) (ha : SE X W a (ev φ ca)) (hs : starEach [a] X.env = [(false, eval a X.env)]) :
    SI X W (.Tuple elts kk tpos) (.Call (.Name "enumerate" p) [a] [] pos) (evIt φ (.enum (.ex ca))) := by
  refine (funext fun s => funext fun h => ?_ : (fun s h => (ev φ ca s h).bind fun p => lift (enD p.1 p.2)) = evIt φ (.enum (.ex ca))) ▸ si_enum hg hm ha hs
  unfold evIt; rfl
end
end FF

/-! FFMore: list(range(..)), tuple(range(..)), insert. -/
namespace FF
open PySem PySem.Spec PyProof.Rows L2
section
variable {X : Cx} {pos : Pos}
end
end FF

/-! FFNew: names of the module, isinstance, {}, sorted(set(..)). -/
namespace FF
open PySem PySem.Spec PyProof.Rows L2
section
variable {X : Cx} {W : EK X.K} {φ : Fn} {pos : Pos}
/-! sorted(set(t)) -/
end
end FF

/-! FFSort: sorted lists of tuples, the empty one among them. -/
namespace FF
open PySem PySem.Spec PyProof.Rows L2 PySem.W PySem.SeqAt
section
variable {prog : Program} {w : World} {A : Around} {E : Value → Shared → Prop} {s : Shared}
end
/-! ### by the layer -/
section
variable {X : Cx}
end
end FF

/-! FFLam: sorted(xs, key=lambda own: -book[own][1]). -/
namespace FF
open PySem PySem.Spec PyProof.Rows L2 PySem.W PySem.SeqAt
/-- the key's text -/
@[reducible] def keyBody (bk own : Str) (j : Nat) (p1 p2 p3 p4 p5 p6 : Pos) : Expr := .UnaryOp .USub (.Subscript (.Subscript (.Name bk p1) (.Name own p2) p3) (.Constant (.int 1) j p4) p5) p6
section
variable {prog : Program} {w : World} {A : Around} {E : Value → Shared → Prop} {s : Shared}
end
/-! ### by the core -/
/-- the lambda's names: its own one, the captured one -/
structure LamK (scope : Scope) (ow bk : Str) : Prop where
  kind : scope.kind = .function
  co : scope.isCoroutine = false
  gen : scope.isGenerator = false
  cell : ∀ y ∈ scope.names, y.2 ≠ .cell
  own' : scope.names.lookup ow = some .local
  bk' : scope.names.lookup bk = some .free
  free : ∀ y ∈ scope.names, y.2 = .free → y.1 = bk
section
variable {X : Cx} {W : EK X.K} {φ : Fn} {pos : Pos}
end
/-! ### the defs that make lambdas -/
structure LamCtx (K : PySem.W.Frag) (mg : Str → Option Value) (base : Heap) (x : Str) : Prop where
  ex : ∃ c P, lamTabs K = [(c, P, x ++ ".<locals>." ++ "<lambda>")] ∧ LamX.TabB base mg c P
end FF

/-! FFTac: the walk, by the text and the core side by side. -/
namespace FF
open PySem PySem.Spec PyProof.Rows L2
section
variable {X : Cx} {W : EK X.K} {φ : Fn} {pos : Pos}
theorem cb_max2 (hc : X.calm = true) : CallR X (.builtin "max") (rDs X.K (biD .max2 false)) := cb_i2 (call_max2 hc)
theorem cb_min2 (hc : X.calm = true) : CallR X (.builtin "min") (rDs X.K (biD .min2 false)) := cb_i2 (call_min2 hc)
theorem un_of {k n : Nat} {A : Around} (r : Room k A) (h : n ≤ 200) : A.units + n < cLine := by have := r.un; omega
/-- a def of the text, as the top leaves it -/
structure DefIn (K : PySem.W.Frag) (mg : Str → Option Value) (st : Stmt) (x : Str) : Prop where
  ex : ∃ (f : Addr) (oc : Value) (od : Option Addr) (kV doc pm : Value) (an : Option Addr) (cdv ct : Value) (osl : Array (Option Value)),
    K.lookup f = some ⟨oc, od, .func (PySem.W.fnOf x x (defArgs st) (defBody st) (defScope st) .none kV doc pm an cdv ct), osl⟩ ∧ PySem.W.codeIn K cdv x = true ∧ mg x = some (.ref f) ∧ PySem.W.keepIn K (.ref f) = true
theorem cal_zero {P : Program} {w : World} {K : PySem.W.Frag} {mg : Str → Option Value} {base : Heap} {st : Stmt} {x : Str} {ps : List Str} {tbl : List (Nat × Def)} {id : Nat} (D : DefIn K mg st x) : Cal P w K mg base 0 (run tbl 0 id) st x ps := by
  obtain ⟨f, oc, od, kV, doc, pm, an, cdv, ct, osl, _, _, hm, hk⟩ := D.ex
  refine ⟨f, kV, doc, pm, an, cdv, ct, ⟨fun vs H Q ⟨_, _, _, _, _, _, ok⟩ => ok.elim, fun _ _ _ _ _ _ _ _ _ _ _ _ _ ⟨_, _, _, _, _, _, ok⟩ => ok.elim⟩, hm, hk⟩
theorem cal_succ {P : Program} {w : World} {K : PySem.W.Frag} {mg : Str → Option Value} {base : Heap} {st : Stmt} {x : Str} {ps N : List Str} {φ : Fn} {d : Def} {k : Nat} (D : DefIn K mg st x) (S : FnScope N ps (defScope st)) (hn : d.names.length = N.length) (hp : d.nps = ps.length)
    (body : ∀ (f : Addr) (cdv : Value) (A : Around) (outer : List Env) (s : Shared) (H : Hp), A.guards = some [] → Room k (A.deeper (envOfC x (defScope st) s.heap.objs.size f cdv)) → SB (Xb P w K mg base N x (defScope st) f cdv A outer s H) (EK.none K) (defBody st) (exB φ d.body)) :
    Cal P w K mg base (k + 1) (runDef φ d) st x ps := by
  obtain ⟨f, oc, od, kV, doc, pm, an, cdv, ct, osl, lk, ci, hm, hk⟩ := D.ex
  exact cal_of lk ci hm hk S hn hp (body f cdv)
theorem fg_def {P : Program} {w : World} {K : PySem.W.Frag} {mg : Str → Option Value} {base : Heap} {st : Stmt} {x : Str} {ps N : List Str} {φ : Fn} {d : Def} {k : Nat} {f : Addr} {oc : Value} {od : Option Addr} {kV doc pm : Value} {an : Option Addr} {cdv ct : Value} {osl : Array (Option Value)}
    (lk : K.lookup f = some ⟨oc, od, .func (PySem.W.fnOf x x (defArgs st) (defBody st) (defScope st) .none kV doc pm an cdv ct), osl⟩) (ci : PySem.W.codeIn K cdv x = true) (S : FnScope N ps (defScope st)) (hn : d.names.length = N.length) (hp : d.nps = ps.length)
    (body : ∀ (f : Addr) (cdv : Value) (A : Around) (outer : List Env) (s : Shared) (H : Hp), A.guards = some [] → Room k (A.deeper (envOfC x (defScope st) s.heap.objs.size f cdv)) → SB (Xb P w K mg base N x (defScope st) f cdv A outer s H) (EK.none K) (defBody st) (exB φ d.body)) :
    Fg P w K mg base (k + 1) f (PySem.W.fnOf x x (defArgs st) (defBody st) (defScope st) .none kV doc pm an cdv ct) ps (spF K (runDef φ d)) := by
  have hpl : ps.length ≤ N.length := by have := congrArg List.length S.pre; rw [List.length_take] at this; omega
  refine fg_of lk ci S (fun vs H Q h => ?_) (fun A outer s H vs Q hgd hr h => ?_)
  · rw [← hp]; exact (body_ok h hn (by rw [hp]; exact hpl)).1
  · exact ⟨_, body f cdv A outer s H hgd hr, (body_ok h hn (by rw [hp]; exact hpl)).2⟩
theorem ar1 {α β : Type} {B : List α → Prop} {x0 : β} (h : ∀ u0, B [u0]) : ∀ us : List α, us.length = [x0].length → B us := fun us hl => match us, hl with | [u0], _ => h u0
theorem ar2 {α β : Type} {B : List α → Prop} {x0 x1 : β} (h : ∀ u0 u1, B [u0, u1]) : ∀ us : List α, us.length = [x0, x1].length → B us := fun us hl => match us, hl with | [u0, u1], _ => h u0 u1
theorem ar3 {α β : Type} {B : List α → Prop} {x0 x1 x2 : β} (h : ∀ u0 u1 u2, B [u0, u1, u2]) : ∀ us : List α, us.length = [x0, x1, x2].length → B us := fun us hl => match us, hl with | [u0, u1, u2], _ => h u0 u1 u2
theorem ar5 {α β : Type} {B : List α → Prop} {x0 x1 x2 x3 x4 : β} (h : ∀ u0 u1 u2 u3 u4, B [u0, u1, u2, u3, u4]) : ∀ us : List α, us.length = [x0, x1, x2, x3, x4].length → B us := fun us hl => match us, hl with | [u0, u1, u2, u3, u4], _ => h u0 u1 u2 u3 u4
end
end FF

/-! FFExc: exceptions through calls. -/
namespace FF
open PySem PySem.Spec PyProof.Rows L2
/-- the field that an error class keeps -/
def fldOf (c : String) : Str := if c = "TooMany" then "limit" else if c = "Unlevel" then "pair" else if c = "BadBook" then "error" else if c = "NoVersion" then "given" else "place"
/-- how an exception of ours lies in the model -/
def RX (K : PySem.W.Frag) (mg : Str → Option Value) (Fr ρ : List Addr) (H : Hp) (e : D) (cls : Value) (d : Option Addr) : Prop :=
  ∃ c ds C, e = .exn c ds ∧ mg (Str.ofString c) = some (.ref C) ∧ cls = .ref C ∧
    ((ds = [] ∧ d = none) ∨ ∃ x dd v, ds = [x] ∧ d = some dd ∧ H dd = some (.xd [(fldOf c, v)]) ∧ RD K Fr ρ H x v)
/-- what is wished of an exception, at any slots -/
def EKW (K : PySem.W.Frag) (mg : Str → Option Value) (n : Nat) (W : WX) : EK K :=
  ⟨fun Fr ρ H _ e h => ∀ σ' ρ' H' cls d, List.length σ' = n → Ext ρ H ρ' H' → HR K Fr ρ' h H' → RX K mg Fr ρ' H' e cls d → W cls d σ' H',
   fun x r p σ' ρ' H' cls d hl x2 r2 rx => p σ' ρ' H' cls d hl (x.step r x2) r2 rx⟩
theorem EKW.flat {K : PySem.W.Frag} {mg : Str → Option Value} {n : Nat} {W : WX} : (EKW K mg n W).flat := fun _ _ _ _ _ _ _ h => h
abbrev SpX := List V → Hp → VK → XK → Prop
/-- the promise of a def that may raise -/
structure FgX (P : Program) (w : World) (K : PySem.W.Frag) (mg : Str → Option Value) (base : Heap) (k : Nat) (f : Addr) (fd : FuncData) (ps : List Str) (sp : SpX) : Prop where
  many : ∀ vs H Q E, sp vs H Q E → vs.length = ps.length
  goes : ∀ (A : Around) (outer : List Env) (s : Shared) (H : Hp) (args : Args) (us : List Value) (vs : List V) (Q : VK) (E : XK),
    A.guards = some [] → Room k A → Env0 P w K mg base A outer s H → BindsTo s fd args (ps.zip us) → Vals vs us → sp vs H Q E →
    codeAny (model P w) A (.call (.ref f) args) (CR (L2.CX P w) outer P w H s Q E) s
/-- the context of the body of a def that may raise -/
abbrev Xe (P : Program) (w : World) (K : PySem.W.Frag) (mg : Str → Option Value) (base : Heap) (N : List Str) (qual : Str) (sc : Scope) (f : Addr) (cd : Value) (A : Around) (outer : List Env) (s : Shared) (H : Hp) (E : XK) : Cx :=
  cxOf (L2.CX P w) P w K mg base N qual sc f cd A outer s H E
section
variable {P : Program} {w : World} {K : PySem.W.Frag} {mg : Str → Option Value} {base : Heap}
end
/-! ### calls -/
section
variable {X : Cx} {k : Nat} {f : Addr} {fd : FuncData} {ps : List Str} {sp : SpX} {x : Str} {p pos : Pos} {e : Expr} {es : List Expr} {t : TA} {W : WX}
/-- what a def promises that may raise -/
def spX (K : PySem.W.Frag) (mg : Str → Option Value) (f : List D → Hq → R (D × Hq)) : SpX := fun vs H Q E => ∃ Fr ρ h ds, HR K Fr ρ h H ∧ RDs K Fr ρ H ds vs ∧
  okR (Kont K Fr ρ H Q) (fun e h' => ∀ ρ' H' cls d, Ext ρ H ρ' H' → HR K Fr ρ' h' H' → RX K mg Fr ρ' H' e cls d → E cls d H') (f ds h)
structure CalX (P : Program) (w : World) (K : PySem.W.Frag) (mg : Str → Option Value) (base : Heap) (k : Nat) (fx : List D → Hq → R (D × Hq)) (st : Stmt) (x : Str) (ps : List Str) : Prop where
  ex : ∃ (f : Addr) (kV doc pm : Value) (an : Option Addr) (cdv ct : Value), FgX P w K mg base k f (PySem.W.fnOf x x (defArgs st) (defBody st) (defScope st) .none kV doc pm an cdv ct) ps (spX K mg fx) ∧ mg x = some (.ref f) ∧ PySem.W.keepIn K (.ref f) = true
end
/-! ### a call that never raises, among those that may -/
section
variable {X : Cx} {k : Nat} {fx : List D → Hq → R (D × Hq)} {st : Stmt} {ps : List Str} {x : Str} {p pos : Pos} {e : Expr} {es : List Expr} {W : EK X.K}
end
mutual
theorem thaw_pureE {n : Nat} {g : List D → Option (List D)} {h : Hq} : ∀ d : D, d.pure = true → D.thaw n g h d = some d
  | .non, _ => by unfold D.thaw; rfl
  | .bl _, _ => by unfold D.thaw; rfl
  | .int _, _ => by unfold D.thaw; rfl
  | .str _, _ => by unfold D.thaw; rfl
  | .tup ds, q => by unfold D.pure at q; unfold D.thaw; rw [thaws_pureE ds q]; rfl
  | .lst ds, q => by unfold D.pure at q; unfold D.thaw; rw [thaws_pureE ds q]; rfl
  | .scr _, _ => by unfold D.thaw; rfl
  | .ktp _, _ => by unfold D.thaw; rfl
  | .ref _, q => by unfold D.pure at q; cases q
  | .dct ds, q => by unfold D.pure at q; unfold D.thaw; rw [thaws_pureE ds q]; rfl
  | .exn _ ds, q => by unfold D.pure at q; unfold D.thaw; rw [thaws_pureE ds q]; rfl
theorem thaws_pureE {n : Nat} {g : List D → Option (List D)} {h : Hq} : ∀ ds : List D, D.pures ds = true → D.thaws n g h ds = some ds
  | [], _ => by unfold D.thaws; rfl
  | d :: ds, q => by
    unfold D.pures at q
    rw [Bool.and_eq_true] at q
    unfold D.thaws
    rw [thaw_pureE d q.1, thaws_pureE ds q.2]
end
/-! ### defs that may raise (they change nothing of their caller's) -/
section
variable {K : PySem.W.Frag} {mg : Str → Option Value} {H : Hp}
end
end FF

/-! FFExc2: raise, try. -/
namespace FF
open PySem PySem.Spec PyProof.Rows L2
section
variable {X : Cx} {C : Addr} {bmB : List Value} {B newId initId : String}
end
end FF

/-! FFExc3: try: body, except C as e: return [tag, isinstance(e, F)]. -/
namespace FF
open PySem PySem.Spec PyProof.Rows L2
section
variable {X : Cx} {C CF : Addr} {tag n : Str} {i : Nat}
end
end FF

/-! FFExc4: rules by core form, where exceptions may leave. -/
namespace FF
open PySem PySem.Spec PyProof.Rows L2
section
variable {X : Cx} {W : EK X.K} {φ : Fn} {pos : Pos}
end
section
variable {X : Cx} {W : WX} {φ : Fn} {pos : Pos} {n : Nat}
end
end FF

/-! FFExcF: an own error with one field: its __init__ calls super().__init__ and keeps what was given. -/
namespace FF
open PySem PySem.Spec PyProof.Rows L2
section
variable {P : Program} {w : World} {M : Model} {A : Around} {E : Value → Shared → Prop} {hp : Heap} {gs : Array GenState} {dr : Drawn} {tk : Nat} {os : OsState}
variable {nm q : Str} {C N : Addr} {bs bm : List Value} {hdct : Bool} {sn : List Str} {sub : List Value} {ab : Bool} {col : Option Bool} {dd : Option Addr} {k0 k1 k2 k3 k5 : Option Value}
open PySem.W in
end
/-! ### the __init__ -/
/-- def __init__(self, f): super().__init__(f); self.f = f -/
structure InitSt (st : Stmt) (f : Str) : Prop where
  body : ∃ (p0 p1 p2 p3 p4 p5 p6 p7 p8 p9 : Pos), defBody st = [.Expr (.Call (.Attribute (.Call (.Name "super" p0) [] [] p1) "__init__" p2) [.Name f p3] [] p4) p5, .Assign [.Attribute (.Name "self" p6) f p7] (.Name f p8) p9] ∧
    (∃ pl : Env → Sem Bool, ∀ env, eval (.Call (.Attribute (.Call (.Name "super" p0) [] [] p1) "__init__" p2) [.Name f p3] [] p4) env = (do
      let ov ← attributeBase (.Call (.Name "super" p0) [] [] p1) "__init__" env (eval (.Call (.Name "super" p0) [] [] p1) env)
      standAt p2.atName
      let (g, first) ← holding [ov] (getMethod ov "__init__" (pl env))
      callWith p4 g first (backTo p4 (starEach [.Name f p3] env)) [])) ∧
    (∀ env, interactive env = false → swapsWith (.Call (.Attribute (.Call (.Name "super" p0) [] [] p1) "__init__" p2) [.Name f p3] [] p4) none p5.line env = pure false) ∧
    ∀ env, swapsWith (.Name f p8) (some (.Attribute (.Name "self" p6) f p7)) p9.line env = pure false
  arg : ∃ ar : Arg, ((defArgs st).posonlyargs ++ (defArgs st).args).head? = some ar ∧ ar.arg = "self"
  n1 : (defScope st).names.lookup ("super" : Str) = some .globalImplicit
  n2 : (defScope st).names.lookup ("__class__" : Str) = some .free
  n3 : (defScope st).names.lookup ("self" : Str) = some .local
  n4 : (defScope st).names.lookup f = some .local
  d4 : (f == ("__debug__" : Str)) = false
  ne : (("self" : Str) == f) = false
  cell : ∀ x ∈ (defScope st).names, x.2 ≠ .cell
  co : (defScope st).isCoroutine = false
  gn : (defScope st).isGenerator = false
  kd : (defScope st).kind = .function
section
open PySem.W
variable {P : Program} {w : World} {A : Around} {hp : Heap} {gs : Array GenState} {dr : Drawn} {tk : Nat} {os : OsState} {K : Frag}
end
/-- what the text says of an error class that keeps one field -/
structure FldC (P : Program) (K : PySem.W.Frag) (mg : Str → Option Value) (C : Addr) (f : Str) : Prop where
  oex : OexC K C
  ve : PySem.W.subIn K (.ref C) (.type "ValueError") = some true
  slf : PySem.W.mroIn K C (.ref C) = some true
  sup : PySem.W.ks_superIn K C C "__init__" = some (some (.builtin "ValueError.__init__"))
  thd : PySem.W.nsIn K cStatics "thirdparty.any" = some none
  mgS : mg "super" = none
  no : PySem.W.findIn K (.ref C) f = some none
  top : (P.main.scope.names.lookup ("super" : Str)).isSome = false
  init : ∃ (st : Stmt) (q : Str) (fI cc cda : Addr) (dV kV doc pm ct oc ccl cl : Value) (an od cdd cld : Option Addr) (osl ccs csl : Array (Option Value)) (vs : Array Value) (file : Str) (tf : Tok),
    InitSt st f ∧ PySem.W.findIn K (.ref C) "__init__" = some (some (.ref fI)) ∧ PySem.W.typeIn K (.ref fI) = some (.type "function") ∧
    K.lookup fI = some ⟨oc, od, .func (PySem.W.ksFn "__init__" q (defArgs st) (defBody st) (defScope st) dV kV doc pm an (.ref cda) ct cc), osl⟩ ∧ PySem.W.codeIn K (.ref cda) q = true ∧
    K.lookup cda = some ⟨ccl, cdd, .fields vs, ccs⟩ ∧ vs[2]? = some (.str file tf) ∧ ((P.main.file : Str) == file) = true ∧ K.lookup cc = some ⟨cl, cld, .cell (some (.ref C)), csl⟩ ∧
    ∀ (a : Addr) (u : Value), bindArgs (PySem.W.ksFn "__init__" q (defArgs st) (defBody st) (defScope st) dV kV doc pm an (.ref cda) ct cc) ⟨[.ref a, u], []⟩ = pure [(("self" : Str), .ref a), (f, u)]
section
variable {X : Cx}
end
end FF

/-! FFTryM: raise with a field; try with several clauses, each with its name. -/
namespace FF
open PySem PySem.Spec PyProof.Rows L2
/-! ### raise C(e) -/
section
variable {X : Cx} {C : Addr} {W : WX} {n k : Nat} {φ : Fn}
/-! ### clauses -/
/-- what a clause does: the class, the slot of its name, its suite -/
structure HandI where
  c : Value
  i : Nat
  ts : Addr → Value → Option Addr → TS
abbrev endsAt (i : Nat) (D : Ends) : Ends := { nx := fun σ' H' => D.nx (σ'.set i none) H', rt := D.rt, bk := fun σ' H' => D.bk (σ'.set i none) H', ct := fun σ' H' => D.ct (σ'.set i none) H' }
inductive HandsOk (X : Cx) : List ExceptHandler → List HandI → Prop
  | nil : HandsOk X [] []
  | cons {x n : Str} {q : HandI} {s0 : Stmt} {su : List Stmt} {np hp : Pos} {hds : List ExceptHandler} {l : List HandI} (hi : X.N[q.i]? = some n) (hln : X.env.kindOf n = some .local) (nm : Names X x q.c)
      (go : ∀ (a : Addr) (oe : Obj) (cls : Value) (d : Option Addr) (pn : List (Addr × Obj)), Zc cls d oe → (∃ vs, oe.data = .fields vs) → PSs (X.suite a ((a, oe) :: pn)) (s0 :: su) (q.ts a cls d)) (r : HandsOk X hds l) :
      HandsOk X (.ExceptHandler (some (.Name x np)) (some n) (s0 :: su) hp :: hds) (q :: l)
end
/-! ### the suites: return [tag, e.f?, isinstance(e, F)] -/
section
variable {X : Cx} {C CF a : Addr} {tag n : Str} {i : Nat}
def tHandM (C : Addr) (i : Nat) (tag : Str) (fl : Option Str) : Addr → Value → Option Addr → TS := fun a cls d D σ H => σ[i]? = some (some (.ref a)) ∧ cls = .ref C ∧
  match fl with
  | none => d = none ∧ ∀ p, H p = none → D.rt (.ref p) (upd H p (.lst [.str tag, .bl true]))
  | some f => ∃ dd v, d = some dd ∧ H dd = some (.xd [(f, v)]) ∧ ∀ p, H p = none → D.rt (.ref p) (upd H p (.lst [.str tag, v, .bl true]))
end
/-! ### the try -/
structure HD where
  t : Hand
  C : Addr
  i : Nat
def HD.hand (x : HD) : HandI := ⟨.ref x.C, x.i, tHandM x.C x.i x.t.tag (if x.t.fld then some (fldOf x.t.cls) else none)⟩
section
variable {X : Cx}
end
end FF

/-! FFExc5: rules by core form for errors; error classes as the text has them; ( *a, b). -/
namespace FF
open PySem PySem.Spec PyProof.Rows L2
/-- an error class without a field -/
structure Err0 (K : PySem.W.Frag) (mg : Str → Option Value) (c : String) (C : Addr) : Prop where
  g : mg (Str.ofString c) = some (.ref C)
  k : PySem.W.keepIn K (.ref C) = true
  q : PySem.W.excIn K C [.type "ValueError", .type "Exception", .type "BaseException", .type "object"] "ValueError.__new__" = true
  t : PySem.W.typeIn K (.ref C) = some (.type "type")
  e : ExcC K C
/-- an error class with a field -/
structure Err1 (P : Program) (K : PySem.W.Frag) (mg : Str → Option Value) (c : String) (C : Addr) : Prop where
  g : mg (Str.ofString c) = some (.ref C)
  f : FldC P K mg C (fldOf c)
  x : XfC K C
  e : ExcC K C
section
variable {X : Cx} {W : WX} {φ : Fn} {pos : Pos} {n k : Nat} {C : Addr} {c : String}
end
/-! ### clauses -/
section
variable {X : Cx} {C CF : Addr} {c : String} {i : Nat} {n : Str}
variable {x tag : Str} {J : Expr} {j : Nat} {p1 p6 p7 p8 p9 np hp : Pos} {hds : List ExceptHandler} {l : List HD}
end
/-! ### a keyword call that never raises, among those that may -/
section
variable {X : Cx} {W : EK X.K} {φ : Fn} {pos : Pos}
/-! a call of a def that may raise, where it is known not to -/
end
end FF

/-! FFErr: what a text says of its error classes, as one closed question. -/
namespace FF
open PySem PySem.Spec PyProof.Rows L2
end FF

/-! FFAli: a def that is called by a second name. -/
namespace FF
open PySem PySem.Spec PyProof.Rows L2
/-- a def of the name x, held by the name y -/
structure DefInA (K : PySem.W.Frag) (mg : Str → Option Value) (st : Stmt) (x y : Str) : Prop where
  ex : ∃ (f : Addr) (oc : Value) (od : Option Addr) (kV doc pm : Value) (an : Option Addr) (cdv ct : Value) (osl : Array (Option Value)),
    K.lookup f = some ⟨oc, od, .func (PySem.W.fnOf x x (defArgs st) (defBody st) (defScope st) .none kV doc pm an cdv ct), osl⟩ ∧ PySem.W.codeIn K cdv x = true ∧ mg y = some (.ref f) ∧ PySem.W.keepIn K (.ref f) = true
structure CalA (P : Program) (w : World) (K : PySem.W.Frag) (mg : Str → Option Value) (base : Heap) (k : Nat) (fx : List D → Hq → R (D × Hq)) (st : Stmt) (x y : Str) (ps : List Str) : Prop where
  ex : ∃ (f : Addr) (kV doc pm : Value) (an : Option Addr) (cdv ct : Value), Fg P w K mg base k f (PySem.W.fnOf x x (defArgs st) (defBody st) (defScope st) .none kV doc pm an cdv ct) ps (spF K fx) ∧ mg y = some (.ref f) ∧ PySem.W.keepIn K (.ref f) = true
section
variable {X : Cx} {k : Nat} {fx : List D → Hq → R (D × Hq)} {st : Stmt} {ps : List Str} {x y : Str} {p pos : Pos} {e : Expr} {es : List Expr}
end
end FF

/-! FFGet: d.get(k, x); dict displays where errors may pass. -/
namespace FF
open PySem PySem.Spec L2
section
variable {X : Cx} {W : EK X.K} {φ : Fn}
/-! ### what never raises -/
def Ex.calm : Ex → Bool
  | .var _ => true
  | .const _ => true
  | .bin _ _ a b => a.calm && b.calm
  | _ => false
def Exs.calm : Exs → Bool
  | .nil => true
  | .cons a r => a.calm && r.calm
end
end FF

/-! FFText: join, split, f-strings of two parts and a text between. -/
namespace FF
open PySem PySem.Spec L2
section
variable {X : Cx} {W : EK X.K} {φ : Fn}
end
end FF

/-! FFLamD: a def that makes a lambda. -/
namespace FF
open PySem PySem.Spec PyProof.Rows L2
end FF

/-! FFKey: dicts whose keys are tuples, nested. -/
namespace FF
open PySem PySem.Spec PyProof.Rows L2
/-! ### a hash without texts -/
mutual
theorem hash_bare (w w' : World) : ∀ k : NestedKey, bareK k = true → k.hash w = k.hash w'
  | .none, _ => rfl
  | .num _, _ => rfl
  | .text _, h => by cases h
  | .tup ks, h => by
    unfold NestedKey.hash
    rw [hashes_bare w w' ks (by unfold bareK at h; exact h)]
theorem hashes_bare (w w' : World) : ∀ ks : List NestedKey, bareKs ks = true → NestedKey.hashes w ks = NestedKey.hashes w' ks
  | [], _ => rfl
  | k :: ks, h => by
    unfold bareKs at h
    rw [Bool.and_eq_true] at h
    unfold NestedKey.hashes
    rw [hash_bare w w' k h.1, hashes_bare w w' ks h.2]
end
theorem bare_nums : ∀ ns : List Int, bareKs (ns.map NestedKey.num) = true
  | [] => rfl
  | n :: ns => by show (true && bareKs (ns.map _)) = true; rw [bare_nums ns]; rfl
mutual
theorem nk_bare : ∀ (d : D) (k : NestedKey), nk d = some k → bareK k = true
  | .non, _, e => by cases e; rfl
  | .bl _, _, e => by cases e; rfl
  | .int _, _, e => by cases e; rfl
  | .str _, _, e => by unfold nk at e; cases e
  | .tup ds, k, e => by
    unfold nk at e
    cases q : nks ds with
    | none => rw [q] at e; cases e
    | some ks => rw [q] at e; cases e; unfold bareK; exact nks_bare ds ks q
  | .lst _, _, e => by unfold nk at e; cases e
  | .scr _, _, e => by unfold nk at e; cases e
  | .ktp ns, k, e => by unfold nk at e; cases e; unfold bareK; exact bare_nums ns
  | .ref _, _, e => by unfold nk at e; cases e
  | .dct _, _, e => by unfold nk at e; cases e
  | .exn _ _, _, e => by unfold nk at e; cases e
theorem nks_bare : ∀ (ds : List D) (ks : List NestedKey), nks ds = some ks → bareKs ks = true
  | [], _, e => by cases e; rfl
  | d :: ds, ks, e => by
    unfold nks at e
    cases q1 : nk d with
    | none => rw [q1] at e; cases e
    | some k =>
      cases q2 : nks ds with
      | none => rw [q1, q2] at e; cases e
      | some ks' =>
        rw [q1, q2] at e; cases e
        unfold bareKs
        rw [nk_bare d k q1, nks_bare ds ks' q2]; rfl
end
theorem keyN_some {d : D} {k : NestedKey} (h : keyN d = some k) : isTupD d = true ∧ nk d = some k ∧ k.depth ≤ 8 := by
  unfold keyN at h
  split at h
  · rename_i t
    split at h
    · rename_i k' e
      split at h
      · cases h; exact ⟨t, e, by assumption⟩
      · cases h
    · cases h
  · cases h
section
variable {X : Cx} {pins : List (Addr × Obj)} {σ : L2.St} {H : Hp} {s : Shared} {Fr ρ : List Addr}
theorem nums_all (h : Heap) : ∀ (ns : List Int) (us : List Value), Vals (ns.map V.int) us → NestedAll h (ns.map NestedKey.num) us
  | [], us, r => by rw [List.map_nil] at r; cases r; exact .nil
  | n :: ns, us, r => by
    rw [List.map_cons] at r
    cases r with
    | cons a b =>
      obtain ⟨t, rfl⟩ := a
      exact .cons (.int _ _) (nums_all h ns _ b)
mutual
/-- data as a key -/
theorem nk_is (I : Inv X pins σ H s) : ∀ (d : D) (k : NestedKey) (v : V) (u : Value), nk d = some k → RD X.K Fr ρ H d v → RelV v u → NestedIs s.heap k u
  | .non, k, v, u, e, r, q => by
    cases e
    rw [rd_non.mp r] at q
    cases (show u = Value.none from q)
    exact .none
  | .bl b, k, v, u, e, r, q => by
    cases e
    rw [rd_bl.mp r] at q
    cases (show u = Value.bool b from q)
    exact .bool rfl
  | .int i, k, v, u, e, r, q => by
    cases e
    rw [rd_int.mp r] at q
    obtain ⟨t, rfl⟩ := q
    exact .int _ _
  | .str _, _, _, _, e, _, _ => by unfold nk at e; cases e
  | .tup ds, k, v, u, e, r, q => by
    unfold nk at e
    obtain ⟨a, vs, rfl, sq, rs⟩ := r.sqT
    cases (show u = Value.ref a from q)
    obtain ⟨its, rv, ⟨o, e1, e2, n, e3⟩, _⟩ := I.tuple sq
    cases q2 : nks ds with
    | none => rw [q2] at e; cases e
    | some ks =>
      rw [q2] at e; cases e
      exact .tup e1 e2 e3 (nks_is I ds ks vs its q2 rs rv)
  | .lst _, _, _, _, e, _, _ => by unfold nk at e; cases e
  | .scr _, _, _, _, e, _, _ => by unfold nk at e; cases e
  | .ktp ns, k, v, u, e, r, q => by
    unfold nk at e
    cases e
    unfold RD at r
    obtain ⟨a, rfl, kk⟩ := r
    cases (show u = Value.ref a from q)
    obtain ⟨its, rv, ⟨o, e1, e2, n, e3⟩, _⟩ := I.tuple kk.sqT
    exact .tup e1 e2 e3 (nums_all _ ns its rv)
  | .ref _, _, _, _, e, _, _ => by unfold nk at e; cases e
  | .dct _, _, _, _, e, _, _ => by unfold nk at e; cases e
  | .exn _ _, _, _, _, e, _, _ => by unfold nk at e; cases e
theorem nks_is (I : Inv X pins σ H s) : ∀ (ds : List D) (ks : List NestedKey) (vs : List V) (us : List Value), nks ds = some ks → RDs X.K Fr ρ H ds vs → Vals vs us → NestedAll s.heap ks us
  | [], ks, vs, us, e, r, q => by
    cases e
    unfold RDs at r
    subst r
    cases q
    exact .nil
  | d :: ds, ks, vs, us, e, r, q => by
    unfold nks at e
    unfold RDs at r
    obtain ⟨v, t, rfl, k1, r⟩ := r
    cases q with
    | cons a b =>
      cases q1 : nk d with
      | none => rw [q1] at e; cases e
      | some k =>
        cases q2 : nks ds with
        | none => rw [q1, q2] at e; cases e
        | some ks' =>
          rw [q1, q2] at e; cases e
          exact .cons (nk_is I d k v _ q1 k1 a) (nks_is I ds ks' t _ q2 r b)
end
theorem tup_ref {d : D} {v : V} (t : isTupD d = true) (r : RD X.K Fr ρ H d v) : ∃ a, v = .ref a := by
  cases d <;> first | (cases t; done) | skip
  · obtain ⟨a, _, e, _⟩ := r.tupl; exact ⟨a, e⟩
  · unfold RD at r; obtain ⟨a, e, _⟩ := r; exact ⟨a, e⟩
theorem keyN_is (I : Inv X pins σ H s) {d : D} {k : NestedKey} {v : V} {u : Value} (e : keyN d = some k) (r : RD X.K Fr ρ H d v) (q : RelV v u) : ∃ b, v = .ref b ∧ u = .ref b ∧ (nestedKind X.prog X.w).is s.heap k b := by
  obtain ⟨t, e1, e2⟩ := keyN_some e
  obtain ⟨b, rfl⟩ := tup_ref t r
  cases (show u = Value.ref b from q)
  exact ⟨b, rfl, rfl, nk_is I d k _ _ e1 r rfl, e2⟩

/-! ### the entries -/
theorem NR.cons_inv {K : PySem.W.Frag} {p : D × D} {kvs : List (D × D)} {xs : List (NestedKey × Addr × V)} (r : NR K Fr ρ H (p :: kvs) xs) :
    ∃ k b v t, xs = (k, b, v) :: t ∧ keyN p.1 = some k ∧ RD K Fr ρ H p.1 (.ref b) ∧ RD K Fr ρ H p.2 v ∧ NR K Fr ρ H kvs t := by
  obtain ⟨e, r1, r2⟩ := r
  cases xs with
  | nil => cases e
  | cons x t =>
    obtain ⟨k, b, v⟩ := x
    rw [List.map_cons, List.map_cons] at e
    have e1 := (List.cons.inj e).1
    have e2 := (List.cons.inj e).2
    rw [List.map_cons, List.map_cons] at r1 r2
    unfold RDs at r1 r2
    obtain ⟨v1, t1, z1, q1, s1⟩ := r1
    obtain ⟨v2, t2, z2, q2, s2⟩ := r2
    obtain ⟨y1, y2⟩ := List.cons.inj z1
    obtain ⟨y3, y4⟩ := List.cons.inj z2
    subst y1 y2 y3 y4
    exact ⟨k, b, v, t, rfl, e1, q1, q2, e2, s1, s2⟩
theorem NR.nil {K : PySem.W.Frag} : NR K Fr ρ H [] [] := ⟨rfl, RDs.nil, RDs.nil⟩
theorem NR.cons {K : PySem.W.Frag} {p : D × D} {kvs : List (D × D)} {k : NestedKey} {b : Addr} {v : V} {t : List (NestedKey × Addr × V)} (e : keyN p.1 = some k) (r1 : RD K Fr ρ H p.1 (.ref b)) (r2 : RD K Fr ρ H p.2 v) (r : NR K Fr ρ H kvs t) :
    NR K Fr ρ H (p :: kvs) ((k, b, v) :: t) := ⟨by rw [List.map_cons, List.map_cons, e, r.1], RDs.cons r1 r.2.1, RDs.cons r2 r.2.2⟩
theorem NR.length {K : PySem.W.Frag} {kvs : List (D × D)} {xs : List (NestedKey × Addr × V)} (r : NR K Fr ρ H kvs xs) : kvs.length = xs.length := by
  have := congrArg List.length r.1
  simpa using this
theorem NR.keys (I : Inv X pins σ H s) : ∀ {kvs : List (D × D)} {xs : List (NestedKey × Addr × V)}, NR X.K Fr ρ H kvs xs → ∀ x ∈ xs, (nestedKind X.prog X.w).is s.heap x.1 x.2.1 ∧ bareK x.1 = true
  | [], xs, r, x, hx => by
    have := r.length
    cases xs with
    | nil => cases hx
    | cons _ _ => cases this
  | p :: kvs, xs, r, x, hx => by
    obtain ⟨k, b, v, t, rfl, e, r1, r2, r⟩ := r.cons_inv
    rcases List.mem_cons.mp hx with rfl | hx
    · obtain ⟨b', e1, e2, q⟩ := keyN_is I (u := .ref b) e r1 rfl
      cases e1
      exact ⟨q, nk_bare _ _ (keyN_some e).2.1⟩
    · exact r.keys I x hx
/-- what stands at a key -/
theorem NR.at {K : PySem.W.Frag} (k : NestedKey) : ∀ {kvs : List (D × D)} {xs : List (NestedKey × Addr × V)} {ys : List (NestedKey × Addr × Value)}, NR K Fr ρ H kvs xs → PN xs ys →
    (nget kvs k = none ∧ atKey ys k = none) ∨ ∃ d v b u, nget kvs k = some d ∧ atKey ys k = some (b, u) ∧ RD K Fr ρ H d v ∧ RelV v u
  | [], xs, ys, r, q => by
    have := r.length
    cases xs with
    | nil => cases q; exact .inl ⟨rfl, rfl⟩
    | cons _ _ => cases this
  | p :: kvs, xs, ys, r, q => by
    obtain ⟨k', b, v, t, rfl, e, r1, r2, r⟩ := r.cons_inv
    cases q with
    | @cons _ y _ ys q1 q2 =>
      obtain ⟨yk, yb, yv⟩ := y
      obtain ⟨rfl, rfl, q1⟩ := q1
      by_cases h : k' = k
      · subst h
        refine .inr ⟨p.2, v, b, yv, ?_, ?_, r2, q1⟩
        · unfold nget; rw [List.find?_cons_of_pos (by rw [e]; simp)]; rfl
        · unfold atKey; rw [List.find?_cons_of_pos (by simp)]; rfl
      · rcases NR.at k r q2 with ⟨z1, z2⟩ | ⟨d, v', b', u, z1, z2, z3⟩
        · refine .inl ⟨?_, ?_⟩
          · unfold nget at z1 ⊢; rw [List.find?_cons_of_neg (by rw [e]; simpa using h)]; exact z1
          · unfold atKey at z2 ⊢; rw [List.find?_cons_of_neg (by simpa using h)]; exact z2
        · refine .inr ⟨d, v', b', u, ?_, ?_, z3⟩
          · unfold nget at z1 ⊢; rw [List.find?_cons_of_neg (by rw [e]; simpa using h)]; exact z1
          · unfold atKey at z2 ⊢; rw [List.find?_cons_of_neg (by simpa using h)]; exact z2
/-- the entries behind a store -/
def putXN (xs : List (NestedKey × Addr × V)) (k : NestedKey) (b : Addr) (v : V) : List (NestedKey × Addr × V) :=
  if (xs.any fun x => decide (x.1 = k)) = true then xs.map (fun x => if x.1 = k then (x.1, x.2.1, v) else x) else xs ++ [(k, b, v)]
theorem pn_any (k : NestedKey) : ∀ {xs : List (NestedKey × Addr × V)} {ys : List (NestedKey × Addr × Value)}, PN xs ys → (xs.any fun x => decide (x.1 = k)) = (atKey ys k).isSome
  | _, _, .nil => rfl
  | _, _, .cons (a := x) (b := y) (l₁ := xs) (l₂ := ys) q1 q2 => by
    obtain ⟨e1, e2, q1⟩ := q1
    have ih := pn_any k q2
    by_cases h : x.1 = k
    · rw [List.any_cons, decide_eq_true h]
      unfold atKey
      rw [List.find?_cons_of_pos (by rw [← e1]; simpa using h)]; rfl
    · rw [List.any_cons, decide_eq_false h, Bool.false_or, ih]
      unfold atKey
      rw [List.find?_cons_of_neg (by rw [← e1]; simpa using h)]
theorem nr_any {K : PySem.W.Frag} (k : NestedKey) : ∀ {kvs : List (D × D)} {xs : List (NestedKey × Addr × V)}, NR K Fr ρ H kvs xs → (kvs.any fun p => decide (keyN p.1 = some k)) = (xs.any fun x => decide (x.1 = k))
  | [], xs, r => by
    have := r.length
    cases xs with
    | nil => rfl
    | cons _ _ => cases this
  | p :: kvs, xs, r => by
    obtain ⟨k', b, v, t, rfl, e, r1, r2, r⟩ := r.cons_inv
    rw [List.any_cons, List.any_cons, nr_any k r, e]
    congr 1
    by_cases h : k' = k
    · subst h; simp
    · rw [decide_eq_false h, decide_eq_false (by simpa using h)]
theorem PN.put {xs : List (NestedKey × Addr × V)} {ys : List (NestedKey × Addr × Value)} {k : NestedKey} {b : Addr} {v : V} {u : Value} (q : PN xs ys) (ru : RelV v u) : PN (putXN xs k b v) (storedH ys k b u) := by
  unfold putXN storedH
  rw [pn_any k q]
  split
  · revert q
    generalize hxs : xs = xs', hys : ys = ys'
    clear hxs hys
    intro q
    unfold PN at q ⊢
    induction q with
    | nil => exact .nil
    | @cons x y xs ys q1 q2 ih =>
      obtain ⟨e1, e2, e3⟩ := q1
      refine .cons ?_ ih
      unfold putAt
      dsimp only
      by_cases h : x.1 = k
      · rw [if_pos h, if_pos (by rw [← e1]; exact h)]; exact ⟨e1, e2, ru⟩
      · rw [if_neg h, if_neg (by rw [← e1]; exact h)]; exact ⟨e1, e2, e3⟩
  · revert q
    generalize hxs : xs = xs', hys : ys = ys'
    clear hxs hys
    intro q
    unfold PN at q ⊢
    induction q with
    | nil => exact .cons ⟨rfl, rfl, ru⟩ .nil
    | @cons x y xs ys q1 q2 ih => exact .cons q1 ih
theorem nr_map {K : PySem.W.Frag} {k : NestedKey} {d : D} {v : V} (rd : RD K Fr ρ H d v) : ∀ {kvs : List (D × D)} {xs : List (NestedKey × Addr × V)}, NR K Fr ρ H kvs xs →
    NR K Fr ρ H (kvs.map fun p => if keyN p.1 = some k then (p.1, d) else p) (xs.map fun x => if x.1 = k then (x.1, x.2.1, v) else x)
  | [], xs, r => by
    have := r.length
    cases xs with
    | nil => exact NR.nil
    | cons _ _ => cases this
  | p :: kvs, xs, r => by
    obtain ⟨k', b, w, t, rfl, e, r1, r2, r⟩ := r.cons_inv
    rw [List.map_cons, List.map_cons]
    have ih := nr_map (k := k) rd r
    by_cases h : k' = k
    · subst h
      rw [if_pos e]
      dsimp only
      rw [if_pos rfl]
      exact .cons e r1 rd ih
    · rw [if_neg (by rw [e]; simpa using h)]
      dsimp only
      rw [if_neg h]
      exact .cons e r1 r2 ih
theorem nr_snoc {K : PySem.W.Frag} {k : NestedKey} {c d : D} {b : Addr} {v : V} (e : keyN c = some k) (rc : RD K Fr ρ H c (.ref b)) (rd : RD K Fr ρ H d v) : ∀ {kvs : List (D × D)} {xs : List (NestedKey × Addr × V)}, NR K Fr ρ H kvs xs →
    NR K Fr ρ H (kvs ++ [(c, d)]) (xs ++ [(k, b, v)])
  | [], xs, r => by
    have := r.length
    cases xs with
    | nil => exact .cons e rc rd .nil
    | cons _ _ => cases this
  | p :: kvs, xs, r => by
    obtain ⟨k', b', w, t, rfl, e', r1, r2, r⟩ := r.cons_inv
    exact .cons e' r1 r2 (nr_snoc e rc rd r)
theorem NR.put {K : PySem.W.Frag} {kvs : List (D × D)} {xs : List (NestedKey × Addr × V)} {k : NestedKey} {c d : D} {b : Addr} {v : V} (r : NR K Fr ρ H kvs xs) (e : keyN c = some k) (rc : RD K Fr ρ H c (.ref b)) (rd : RD K Fr ρ H d v) :
    NR K Fr ρ H (nput kvs c k d) (putXN xs k b v) := by
  unfold nput putXN
  rw [nr_any k r]
  split
  · exact nr_map rd r
  · exact nr_snoc e rc rd r
theorem putXN_len {xs : List (NestedKey × Addr × V)} {k : NestedKey} {b : Addr} {v : V} : (putXN xs k b v).length ≤ xs.length + 1 := by
  unfold putXN
  split <;> simp

/-! ### the dict itself -/
theorem nd_of (I : Inv X pins σ H s) {a : Addr} {xs : List (NestedKey × Addr × V)} (e : H a = some (NDict a xs)) (hk : ∀ x ∈ xs, (nestedKind X.prog X.w).is s.heap x.1 x.2.1 ∧ bareK x.1 = true) :
    ∃ ys, (a == sysModules) = false ∧ xs.length ≤ sizeLine ∧ PN xs ys ∧ s.heap.DictOfH (nestedKind X.prog X.w) a ys := by
  obtain ⟨⟨hd, z, ys, pn, o, es, ep, ho, hc, hdt, he, hn⟩, st⟩ := (show ObjOk X.prog X.w H s.heap a (NDict a xs) from I.hok a _ e)
  refine ⟨ys, hd, z, pn, o, es, ep, ho, hc, hdt, he X.w, ?_, hn⟩
  clear st hn he hdt hc ho z e
  unfold PN at pn
  induction pn with
  | nil => intro _ h; cases h
  | @cons x y xs ys q1 q2 ih =>
    intro c hc
    rcases List.mem_cons.mp hc with rfl | hc
    · have := (hk x List.mem_cons_self).1
      rw [q1.1, q1.2.1] at this
      exact this
    · exact ih (fun x hx => hk x (List.mem_cons_of_mem _ hx)) c hc
theorem pn_bare : ∀ {xs : List (NestedKey × Addr × V)} {ys : List (NestedKey × Addr × Value)}, PN xs ys → (∀ x ∈ xs, bareK x.1 = true) → ∀ w w', ys.map (entN w) = ys.map (entN w')
  | _, _, .nil, _, _, _ => rfl
  | _, _, .cons (a := x) (b := y) (l₁ := xs) (l₂ := ys) q1 q2, h, w, w' => by
    rw [List.map_cons, List.map_cons, pn_bare q2 (fun x hx => h x (List.mem_cons_of_mem _ hx)) w w']
    congr 1
    unfold entN
    rw [hash_bare w w' y.1 (by rw [← q1.1]; exact h x List.mem_cons_self)]
theorem nd_new {P : Program} {w : World} {H' : Hp} {h' : Heap} {a : Addr} {xs : List (NestedKey × Addr × V)} {ys : List (NestedKey × Addr × Value)} (z : xs.length ≤ sizeLine) (hd : (a == sysModules) = false) (pn : PN xs ys) (hb : ∀ x ∈ xs, bareK x.1 = true)
    (dd : h'.DictOfH (nestedKind P w) a ys) : ObjOk P w H' h' a (NDict a xs) := by
  obtain ⟨o, es, ep, ho, hc, hdt, he, _, hn⟩ := dd
  refine ⟨⟨hd, z, ys, pn, o, es, ep, ho, hc, hdt, fun w' => ?_, hn⟩, ⟨o, ho⟩, fun h1 h2 x k => ?_⟩
  · rw [pn_bare pn hb w' w]; exact he
  · obtain ⟨hd, z, ys, pn, o, es, ep, ho, r⟩ := x
    exact ⟨hd, z, ys, pn, o, es, ep, k _ ho, r⟩

/-! ### {}, d.get(k, x), d[k] = v -/
theorem nd_empty {P : Program} {w : World} {H : Hp} (h : Heap) (hb : sysModules < h.objs.size) : ObjOk P w H (h.push { cls := .type "dict", data := .dict #[] }) h.objs.size (NDict h.objs.size []) :=
  nd_new (ys := []) (Nat.zero_le _) (beq_eq_false_iff_ne.mpr (Ne.symm (Nat.ne_of_lt hb))) .nil (fun _ z => nomatch z) (Heap.DictOfH.new h)
end
def tNewN : TE := fun _ H Q => ∀ p, H p = none → Q (.ref p) (upd H p (NDict p []))
section
variable {X : Cx} {W : EK X.K} {φ : Fn} {pos : Pos}
theorem pe_newN : PE X (.Dict [] [] pos) tNewN := ⟨fun pins s σ H Q I h =>
  wpAny_Dict_empty ⟨.ref s.heap.objs.size, _, I.laid (a := s.heap.objs.size) (o := NDict s.heap.objs.size []) (t' := s.toks) (fun _ _ q => Heap.get?_push_of_some _ q) (Nat.le_refl _) (nd_empty s.heap I.big), rfl, h _ (I.hok.fresh (Nat.le_refl _))⟩⟩
theorem w_newN : SE X W (.Dict [] [] pos) (ev φ .newN) := by
  refine PE.imp pe_newN fun σ H Q ⟨Fr, ρ, s, h, r, sr, ok⟩ p hp => ?_
  conv at ok => unfold ev
  have ok : Kont X.K Fr ρ H Q (.ref h.length, h ++ [.dctN []]) := ok
  refine ok _ (ρ ++ [p]) _ (ext_cell hp) (r.cell hp ⟨[], upd_same, NR.nil⟩) ?_
  unfold RD
  exact ⟨p, rfl, by rw [← r.len]; simp⟩
/-- the dict of a cell -/
theorem HR.dctN {K : PySem.W.Frag} {Fr ρ : List Addr} {H : Hp} {h : Hq} {n : Nat} {kvs : List (D × D)} {v : V} (r : HR K Fr ρ h H) (d : RD K Fr ρ H (.ref n) v) (e : h[n]? = some (.dctN kvs)) :
    ∃ a xs, v = .ref a ∧ ρ[n]? = some a ∧ H a = some (NDict a xs) ∧ NR K Fr ρ H kvs xs := by
  unfold RD at d
  obtain ⟨a, e1, e2⟩ := d
  obtain ⟨b, e3, xs, e4, q⟩ := r.at' n _ e
  rw [e2] at e3; cases e3
  exact ⟨a, xs, e1, e2, e4, q⟩
/-- d[k] = v -/
def rSetN (K : PySem.W.Frag) : TSet := fun o i v H Q => ∃ Fr ρ h x k d, HR K Fr ρ h H ∧ RD K Fr ρ H x o ∧ RD K Fr ρ H k i ∧ RD K Fr ρ H d v ∧ ∃ h', setND x k d h = some h' ∧ ∀ ρ' H', Ext ρ H ρ' H' → HR K Fr ρ' h' H' → Q H'
theorem set_N (hu : X.A.units + 64 < cLine) : PSet X (rSetN X.K) := fun pins s σ H o i v ov iv u Q I r1 r2 r3 ⟨Fr, ρ, h, x, c, d, r, d1, d2, d3, h', q, kk⟩ => by
  unfold setND at q
  split at q
  · rename_i n
    split at q
    · rename_i kvs hn
      split at q
      · rename_i k hk
        split at q
        · rename_i hl
          cases q
          obtain ⟨a, xs, rfl, ha, e3, nr⟩ := r.dctN d1 hn
          cases (show ov = Value.ref a from r1)
          obtain ⟨b, rfl, rfl, hkey⟩ := keyN_is I hk d2 r2
          have hks := nr.keys I
          obtain ⟨ys, hd, z0, pn, dO⟩ := nd_of I e3 hks
          have hly : xs.length = ys.length := Paired.length pn
          refine wpAny_setItem_heap (hsz := by rw [← hly]; exact z0) (by show X.A.in1.units + 8 < cLine; simp only [Around.in1_units]; omega) hkey dO fun h1 dO1 hs => ?_
          have hx := ext_set r (o := NDict a (putXN xs k b v)) ha
          have nr2 := (nr.put hk d2 d3).mono hx
          refine ⟨upd H a (NDict a (putXN xs k b v)), ?_, kk ρ _ hx (r.set ha ⟨_, upd_same, nr2⟩)⟩
          have he : ∃ q, h1.get? a = some q := let ⟨q, _, _, hq, _⟩ := dO1; ⟨q, hq⟩
          refine d_write I (by rw [e3]; exact True.intro) hs he (nd_new (Nat.le_trans putXN_len (by rw [← nr.length, sizeLine_eq]; exact hl)) hd (pn.put r3) (fun y hy => ?_) dO1)
          unfold putXN at hy
          split at hy
          · obtain ⟨y0, hy0, rfl⟩ := List.mem_map.mp hy
            split
            · exact (hks y0 hy0).2
            · exact (hks y0 hy0).2
          · rcases List.mem_append.mp hy with hy | hy
            · exact (hks y hy).2
            · rw [List.mem_singleton] at hy
              subst hy
              exact nk_bare _ _ (keyN_some hk).2.1
        · cases q
      · cases q
    · cases q
  · cases q

theorem ss_setN {o i e : Expr} {tpos : Pos} {fo fi fe : Env' → Hq → R (D × Hq)} (hset : PSet X (rSetN X.K)) (he : SE X W e fe) (ho : SE X (EK.none X.K) o fo) (hi : SE X (EK.none X.K) i fi) (hs : swapsWithSole [.Subscript o i tpos] e pos.line X.env = pure false) (hw : swappedStores [.Subscript o i tpos] e X.env = pure none)
    (h1 : (assignEach [.Subscript o i tpos] X.env).map (·.2) = [assign (.Subscript o i tpos) X.env])
    (ha : ∀ v, assign (.Subscript o i tpos) X.env v = (do
      let ov ← holding [v] (eval o X.env)
      let iv ← holding [v, ov] (eval i X.env)
      standAt tpos
      holding [v, ov, iv] (setItem ov iv v)
      release [v, ov, iv] [])) :
    SS X W (.Assign [.Subscript o i tpos] e pos) (fun s h => (fe s h).bind fun v => (hush (fo s v.2)).bind fun x => (hush (fi s x.2)).bind fun k => (lift (setND x.1 k.1 v.1 k.2)).bind fun h => .ok (.nx s h)) := by
  refine PS.imp (ps_asg he (pg_sub ho hi hset ha) hs hw h1) fun Z σ H ⟨Fr, ρ, s, h, r, sr, ok⟩ => ⟨Fr, ρ, s, h, r, sr, (okR_bind.mp ok).mono (fun p q v ρ1 H1 x1 r1 d1 => ?_) fun _ _ z => z⟩
  refine ⟨Fr, ρ1, s, p.2, r1, sr.mono x1, (okR_hush (E' := fun _ _ => False) (okR_bind.mp q)).mono (fun p2 q2 v2 ρ2 H2 x2 r2 d2 => ?_) fun _ _ z => z⟩
  refine ⟨Fr, ρ2, s, p2.2, r2, (sr.mono x1).mono x2, (okR_hush (E' := fun _ _ => False) (okR_bind.mp q2)).mono (fun p3 q3 v3 ρ3 H3 x3 r3 d3 => ?_) fun _ _ z => z⟩
  obtain ⟨h4, e4, k4⟩ := okR_lift (okR_bind.mp q3)
  have x13 := x2.step r2 x3
  exact ⟨Fr, ρ3, p3.2, p2.1, p3.1, p.1, r3, RD.mono x3 _ _ d2, d3, RD.mono x13 _ _ d1, h4, e4, fun ρ' H' x' r' => k4 σ ρ' H' (((x1.step r1 x13).step r3 x')) r' (((sr.mono x1).mono x13).mono x')⟩
theorem w_setN {o i e : Expr} {tpos : Pos} {co ci ce : Ex} (hu : X.A.units + 64 < cLine) (he : SE X W e (ev φ ce)) (ho : SE X (EK.none X.K) o (ev φ co)) (hi : SE X (EK.none X.K) i (ev φ ci)) (hs : swapsWithSole [.Subscript o i tpos] e pos.line X.env = pure false) (hw : swappedStores [.Subscript o i tpos] e X.env = pure none)
    (h1 : (assignEach [.Subscript o i tpos] X.env).map (·.2) = [assign (.Subscript o i tpos) X.env])
    (ha : ∀ v, assign (.Subscript o i tpos) X.env v = (do
      let ov ← holding [v] (eval o X.env)
      let iv ← holding [v, ov] (eval i X.env)
      standAt tpos
      holding [v, ov, iv] (setItem ov iv v)
      release [v, ov, iv] [])) :
    SS X W (.Assign [.Subscript o i tpos] e pos) (exS φ (.setN co ci ce)) := ss_setN (set_N hu) he ho hi hs hw h1 ha

/-! ### list(d) -/
theorem raw_of (w : World) {s : Shared} {a : Addr} {xs : List (NestedKey × Addr × V)} (x : NDp a xs s.heap) :
    (a == sysModules) = false ∧ ∃ (o : Obj) (es : Array DictEntry) (ep : Nat), s.heap.get? a = some o ∧ o.ExactDict ∧ o.data = .dict es ep ∧ es.size = xs.length ∧ ∀ (i : Nat) (p : NestedKey × Addr × V), xs[i]? = some p → ∃ en : DictEntry, es[i]? = some en ∧ en.key = Value.ref p.2.1 := by
  obtain ⟨hd, z, ys, pn, o, es, ep, ho, hc, hdt, he, hn⟩ := x
  have he := he w
  have hl : xs.length = ys.length := Paired.length pn
  have hs : es.size = ys.length := by
    have := congrArg List.length he
    simpa using this
  refine ⟨hd, o, es, ep, ho, hc, hdt, by omega, fun i p e => ?_⟩
  obtain ⟨y, hy, e1, e2, _⟩ := paired_get pn e
  have q : es[i]? = some (entN w y) := by
    rw [← Array.getElem?_toList, he, List.getElem?_map, hy]; rfl
  exact ⟨_, q, by show Value.ref y.2.1 = _; rw [e2]⟩
theorem vals_refs : ∀ (xs : List (NestedKey × Addr × V)), Vals (xs.map fun x => V.ref x.2.1) (xs.map fun x => Value.ref x.2.1)
  | [] => .nil
  | x :: xs => .cons rfl (vals_refs xs)
theorem cr_listN (hc : X.calm = true) : CallR X (.type "list") (fun vs H Q => ∃ a xs, vs = [V.ref a] ∧ H a = some (NDict a xs) ∧ ∀ p, H p = none → Q (.ref p) (upd H p (.lst (xs.map fun x => V.ref x.2.1)))) := by
  intro pins s σ H vs us Q I r ⟨a, xs, e0, ha, q⟩
  subst e0
  rw [Vals.ref1 r]
  obtain ⟨nd, _⟩ := (show ObjOk X.prog X.w H s.heap a (NDict a xs) from I.hok a _ ha)
  obtain ⟨hd, o, es, ep, ho, hcx, hdt, hsz, en⟩ := raw_of X.w nd
  have z : xs.length ≤ sizeLine := nd.2.1
  refine W.kdl_call (KdlSrc.rawDict (prog := X.prog) (w := X.w) (es := es) (ep := ep) hd) (I.ok.hd hc) ⟨o, ho, hcx, hdt⟩ (by rw [hsz]; exact z) fun h' tk acc' c' hk hS hacc => ?_
  obtain ⟨h1, h2⟩ := hacc
  have e : acc' = (xs.map fun x => Value.ref x.2.1).toArray := by
    refine Array.ext_getElem? fun i => ?_
    by_cases hi : i < xs.length
    · obtain ⟨e1, q1, q2⟩ := en i _ (List.getElem?_eq_getElem hi)
      have ha' : acc'[i]? = some acc'[i] := Array.getElem?_eq_getElem (by omega)
      obtain ⟨hi', hv⟩ := h2 i _ ha'
      rw [ha', hv]
      have : es[i]? = some es[i] := Array.getElem?_eq_getElem hi'
      rw [this] at q1
      cases q1
      rw [q2]
      simp [hi]
    · rw [Array.getElem?_eq_none (by omega), Array.getElem?_eq_none (by simp; omega)]
  subst e
  refine ⟨.ref _, upd H s.heap.objs.size (.lst (xs.map fun x => V.ref x.2.1)), I.laid (t' := tk) hk (Nat.le_refl _) ?_, rfl, q _ (I.hok.fresh (Nat.le_refl _))⟩
  exact ⟨by rw [List.length_map]; exact z, _, c', vals_refs xs, hS⟩
theorem w_listN (hc : X.calm = true) {live : Bool} {e : Expr} {p : Pos} {ce : Ex} (hg : Gl X "list") (hm : X.mg "list" = none) (he : SE X W e (ev φ ce)) (hs : starEach [e] X.env = (false, eval e X.env) :: starEach [] X.env) :
    SE X W (.Call (.Name "list" p) [e] [] pos) (ev φ (.listN live ce)) := by
  refine PE.imp (pe_callTy (cr_listN hc) hg hm PyProof.Rows.boot_list (pa_cons he pa_nil hs) (by decide) (by decide) hs rfl) fun σ H Q t => ?_
  have t' : TEk X.K W (fun s h => (ev φ ce s h).bind fun p => lift (listND live p.1 p.2)) σ H Q := by
    obtain ⟨Fr, ρ, s, h, r, sr, ok⟩ := t
    conv at ok => unfold ev
    exact ⟨Fr, ρ, s, h, r, sr, ok⟩
  refine (t1 (g := fun d h => lift (listND live d h)) t').kmono fun v H1 ⟨Fr, ρ, h, d, r, d1, ok⟩ => ?_
  obtain ⟨p, q, k⟩ := okR_lift ok
  unfold listND at q
  split at q
  · rename_i ds hk
    unfold keysN at hk
    split at hk
    · split at hk
      · rename_i n _ kvs hn
        cases hk
        obtain ⟨a, xs, rfl, ha, e3, nr⟩ := r.dctN d1 hn
        exact ⟨a, xs, rfl, e3, fun p hp => Kont.lst k q r nr.2.1 hp⟩
      · cases hk
    · cases hk
  · cases q

/-! ### {k: v} -/
def dispPost (K : PySem.W.Frag) (Q : VK) (p : Addr) (ps : List (V × V)) (H2 : Hp) : Prop := H2 p = some (NDict p []) ∧ ∃ Fr ρ c d k b y, ps = [(V.ref b, y)] ∧ keyN c = some k ∧ RD K Fr ρ H2 c (.ref b) ∧ RD K Fr ρ H2 d y ∧ Q (.ref p) (upd H2 p (NDict p [(k, b, y)]))
def tDispN (K : PySem.W.Frag) (tk tv : TE) : TE := fun σ H Q => ∀ p, H p = none → tPairs [(tk, tv)] σ (upd H p (NDict p [])) (dispPost K Q p)
theorem pe_dispN {k v : Expr} {tk tv : TE} (hu : X.A.units + 64 < cLine) (hk : PE X k tk) (hv : PE X v tv) : PE X (.Dict [some k] [v] pos) (tDispN X.K tk tv) := by
  refine ⟨fun pins s σ H Q I q => ?_⟩
  have hn := I.hok.fresh (Nat.le_refl s.heap.objs.size)
  have I1 := I.laid (a := s.heap.objs.size) (o := NDict s.heap.objs.size []) (h' := s.heap.push { cls := .type "dict", data := .dict #[] }) (t' := s.toks) (fun _ _ q => Heap.get?_push_of_some _ q) (Nat.le_refl _) (nd_empty s.heap I.big)
  have pp := pps_cons hk hv (pps_nil (X := X) (pos := pos))
  rw [arm_eval_Dict, zip_pairTrees [some k] [v] X.env pos rfl rfl, dictDisplay_pairs (pairTrees [some k] [v] X.env pos) (by intro z; cases z) (by show 1 < 17; decide)]
  refine wpAny_bind (wpAny_standAt (wpAny_bind (wpAny_subDictH (knd := nestedKind X.prog X.w) (by show X.A.units + 8 < cLine; omega) (by show 1 ≤ 15; decide)
    (wpAny_mono (pp.run pins _ σ _ (dispPost X.K Q s.heap.objs.size) I1 (q _ hn)) (fun ws s2 h2 => ?_) fun _ _ e => e))))
  obtain ⟨ps, H2, I2, rel, e, Fr, ρ, c, d, kk, b, y, rfl, ek, rc, rd, q2⟩ := h2
  cases rel with
  | @cons _ w0 _ ws' r1 r2 =>
    cases r2
    obtain ⟨wk, wv⟩ := w0
    obtain ⟨r1, r3⟩ := r1
    dsimp only at r1 r3
    cases (show wk = Value.ref b from r1)
    obtain ⟨b', e1, _, hkey⟩ := keyN_is I2 (u := .ref b) ek rc rfl
    cases e1
    obtain ⟨ys, hd, z0, pn, dO⟩ := nd_of I2 e (fun _ z => nomatch z)
    cases pn
    refine ⟨[(kk, b, wv)], ⟨rfl, rfl, hkey, True.intro⟩, dO, fun h' tk dO1 hs => wpAny_pure ⟨.ref s.heap.objs.size, _, ?_, rfl, q2⟩⟩
    have he : ∃ q, h'.get? s.heap.objs.size = some q := let ⟨q, _, _, hq, _⟩ := dO1; ⟨q, hq⟩
    refine d_write I2 (by rw [e]; exact True.intro) hs he (nd_new (ys := [(kk, b, wv)]) (by rw [sizeLine_eq]; show 1 ≤ 16777216; decide) hd (.cons ⟨rfl, rfl, r3⟩ .nil) (fun x hx => ?_) dO1)
    rw [List.mem_singleton] at hx
    subst hx
    exact nk_bare _ _ (keyN_some ek).2.1
theorem w_dispN {k v : Expr} {ck cv : Ex} (hW : W = EK.none X.K) (hu : X.A.units + 64 < cLine) (hk : SE X W k (ev φ ck)) (hv : SE X W v (ev φ cv)) : SE X W (.Dict [some k] [v] pos) (ev φ (.dispN ck cv)) := by
  subst hW
  refine PE.imp (pe_dispN hu hk hv) fun σ H Q ⟨Fr, ρ, s, h, r, sr, ok⟩ p hp => ?_
  conv at ok => unfold ev
  have x0 : Ext ρ H (ρ ++ [p]) (upd H p (NDict p [])) := ext_cell hp
  have ra := r.cell (b := .dctN []) hp ⟨[], upd_same, NR.nil⟩
  refine ⟨Fr, _, s, _, ra, sr.mono x0, (okR_bind.mp ok).mono (fun p1 q1 v1 ρ1 H1 x1 r1 d1 => ?_) fun _ _ z => z⟩
  obtain ⟨p1, h1⟩ := p1
  dsimp only at q1 r1 d1
  refine ⟨Fr, ρ1, s, h1, r1, (sr.mono x0).mono x1, (okR_bind.mp q1).mono (fun p2 q2 v2 ρ2 H2 x2 r2 d2 => ?_) fun _ _ z => z⟩
  obtain ⟨p2, h2⟩ := p2
  dsimp only at q2 r2 d2
  obtain ⟨p3, e, kk⟩ := okR_lift q2
  have x12 := x1.step r1 x2
  have hn : ρ2[h.length]? = some p := x12.get (by rw [← r.len]; simp)
  unfold dispND at e
  split at e
  · rename_i hN
    split at e
    · rename_i kN hk
      cases e
      obtain ⟨a, ea, xs, e1, nr⟩ := r2.at' _ _ hN
      rw [hn] at ea; cases ea
      have hxs : xs = [] := by
        have := nr.length
        exact List.length_eq_zero_iff.mp this.symm
      subst hxs
      have dk := RD.mono x2 _ _ d1
      obtain ⟨b, rfl⟩ := tup_ref (keyN_some hk).1 dk
      refine ⟨e1, Fr, ρ2, p1, p2, kN, b, v2, rfl, hk, dk, d2, ?_⟩
      have hx := ext_set r2 (o := NDict p [(kN, b, v2)]) hn
      have nr2 : NR X.K Fr ρ2 (upd H2 p (NDict p [(kN, b, v2)])) [(p1, p2)] [(kN, b, v2)] := NR.mono hx (.cons hk dk d2 .nil)
      refine kk _ ρ2 _ ((Ext.step ra x0 x12).step r2 hx) (r2.set hn ⟨_, upd_same, nr2⟩) ?_
      unfold RD
      exact ⟨p, rfl, hn⟩
    · cases e
  · cases e

/-! ### [y for x, y in d] -/
def Itkn (d : Addr) (o : Obj) (xs : List (NestedKey × Addr × V)) : L2.It :=
  ⟨fun i H => H d = some (.frz o (NDict d xs)) ∧ i < xs.length, fun i H x H' => H' = H ∧ ∃ p, xs[i]? = some p ∧ x = V.ref p.2.1, fun i H => H d = some (.frz o (NDict d xs)) ∧ xs.length ≤ i⟩
theorem frz_at {pins : List (Addr × Obj)} {σ : L2.St} {H : Hp} {s : Shared} {d : Addr} {o : Obj} {xs : List (NestedKey × Addr × V)} (I : Inv X pins σ H s) (h : H d = some (.frz o (NDict d xs))) :
    (d == sysModules) = false ∧ s.heap.get? d = some o ∧ o.ExactDict ∧ ∃ (es : Array DictEntry) (ep : Nat), o.data = .dict es ep ∧ es.size = xs.length ∧ ∀ (i : Nat) (p : NestedKey × Addr × V), xs[i]? = some p → ∃ en : DictEntry, es[i]? = some en ∧ en.key = Value.ref p.2.1 := by
  obtain ⟨hd, nd, _⟩ := (show ObjOk X.prog X.w H s.heap d (.frz o (NDict d xs)) from I.hok d _ h)
  obtain ⟨hs, o', es, ep, ho, hc, hdt, hsz, en⟩ := raw_of X.w nd
  rw [hd] at ho
  cases ho
  exact ⟨hs, hd, hc, es, ep, hdt, hsz, en⟩
theorem turn_keysN {P : Program} {w : World} {K : PySem.W.Frag} {tg : Expr} {d : Addr} {o : Obj} {es : Array DictEntry} {ep : Nat} {xs : List (NestedKey × Addr × V)} (it : Addr) (hod : o.data = .dict es ep) :
    Turn P w K tg (Itkn d o xs) [it] it (fun i h => h.IsKeyIter it d i xs.length ep) where
  mem := by simp
  obj := fun i h st b hb => by
    have e : b = it := by simpa using hb
    subst e
    obtain ⟨oi, e, c, dd⟩ := st
    exact ⟨oi, e, fun v z => by rw [dd] at z; cases z⟩
  keep := fun i h h' st k => st.at fun oi e => k it (by simp) oi e
  item := by
    intro X hP hw hK hc i pins s σ H E I hf st hg
    subst hP hw hK
    obtain ⟨hd, hi⟩ := hg
    obtain ⟨f0, f1, f2, f3, f4, f5⟩ := hf it (by simp)
    obtain ⟨hs, hgd, hx, es', ep', hdt, hsz, ent⟩ := frz_at I hd
    obtain ⟨rfl, rfl⟩ := dict_ep hod hdt
    obtain ⟨p, hkv⟩ : ∃ p, xs[i]? = some p := ⟨xs[i], List.getElem?_eq_getElem hi⟩
    obtain ⟨en, hen, hkey⟩ := ent i p hkv
    refine next_key_item st hgd hdt hsz hen fun h' st' sb => ?_
    have I1 : Inv X pins σ H { s with heap := h' } := I.turned (t' := s.toks) (fun b ob hb e => (sb.2 b hb).trans e) f0 f1 f3 f4 f5
    obtain ⟨oi, e, c, dd⟩ := id st'
    exact ⟨en.key, rfl, go_of (s := { s with heap := h' }) e c dd (by decide) ⟨.ref p.2.1, H, I1, hkey, ⟨rfl, p, hkv, rfl⟩, st', fun b hb => (hf b hb).1⟩⟩
  done := by
    intro X hP hw hK hc i pins s σ H E I hf st hg
    subst hP hw hK
    obtain ⟨hd, hi⟩ := hg
    obtain ⟨f0, f1, f2, f3, f4, f5⟩ := hf it (by simp)
    obtain ⟨hs, hgd, hx, es', ep', hdt, hsz, ent⟩ := frz_at I hd
    obtain ⟨rfl, rfl⟩ := dict_ep hod hdt
    exact next_key_end (I.ok.hd hc) st hgd hdt hsz hi fun h' eb => ⟨rfl, I.turned (t' := s.toks) (fun b ob hb e => eb b ob hb e) f0 f1 f3 f4 f5⟩
  self := fun A i s Q E st h => by
    refine wpAny_pyIter_slot st.typeIs F.slot_dict_keyiterator_iter (wpAny_call_entry F.slot_dict_keyiterator_iter st.typeIs F.entry_dict_keyiterator_iter ?_ (F.args_dict_keyiterator_iter_1 _))
    show wpAny _ _ (ret (.ref it)) _ _ s
    exact wpAny_pure ⟨_, rfl, "dict_keyiterator", _, st.typeIs, F.slot_dict_keyiterator_next.lookup, h⟩
def iKeysN (td : TE) : TI := fun σ H R => td σ H fun x H1 => ∃ d o xs, x = .ref d ∧ H1 d = some (.frz o (NDict d xs)) ∧ R (Itkn d o xs) H1
theorem pi_keysN {tg e : Expr} {td : TE} (he : PE X e td) : PI X tg e (iKeysN td) := by
  refine ⟨fun pins s σ H R I h => ?_⟩
  refine thn (he.run pins s σ H _ I h) fun u s1 ⟨x, H1, I1, rx, d, o, xs, ex, hd, q⟩ => ?_
  subst ex
  obtain rfl : u = Value.ref d := rx
  obtain ⟨hs, hgd, hx, es, ep, hdt, hsz, ent⟩ := frz_at I1 hd
  refine iter_keys hs hgd hx hdt (pi_one (tk := s1.toks) I1 _ (turn_keysN _ hdt) ⟨_, Heap.get?_push_size _ rfl, rfl, ?_⟩ q)
  rw [hsz] <;> rfl
theorem snds_of {K : PySem.W.Frag} {Fr ρ : List Addr} {H : Hp} : ∀ {kvs : List (D × D)} {xs : List (NestedKey × Addr × V)} {ds : List D}, NR K Fr ρ H kvs xs → sndsOf (kvs.map (·.1)) = some ds →
    ∃ vs, RDs K Fr ρ H ds vs ∧ vs.length = xs.length ∧ ∀ (i : Nat) p, xs[i]? = some p → ∃ w v, vs[i]? = some v ∧ H p.2.1 = some (.tup [w, v])
  | [], xs, ds, r, e => by
    have := r.length
    cases xs with
    | nil => cases e; exact ⟨[], RDs.nil, rfl, fun i p z => by simp at z⟩
    | cons _ _ => cases this
  | q :: kvs, xs, ds, r, e => by
    obtain ⟨k, b, v, t, rfl, ek, r1, r2, r⟩ := r.cons_inv
    rw [List.map_cons] at e
    unfold sndsOf at e
    split at e
    · rename_i y ys e1 e2
      cases e
      obtain ⟨vs, rs, hl, h⟩ := snds_of r e2
      unfold sndOf at e1
      split at e1
      · rename_i d0 d1 hq
        cases e1
        rw [hq] at r1
        obtain ⟨a, ws, ea, sq, rs2⟩ := r1.tupl
        cases ea
        unfold RDs at rs2
        obtain ⟨w0, t1, rfl, _, rs2⟩ := rs2
        unfold RDs at rs2
        obtain ⟨w1, t2, rfl, dy, rs2⟩ := rs2
        unfold RDs at rs2
        subst rs2
        refine ⟨w1 :: vs, .cons dy rs, by simp [hl], fun i p z => ?_⟩
        cases i with
        | zero => simp at z; subst z; exact ⟨w0, w1, rfl, sq⟩
        | succ i => simp at z; obtain ⟨w, v, z1, z2⟩ := h i p z; exact ⟨w, v, by simpa using z1, z2⟩
      · cases e1
    · cases e
theorem w_sndN {elt tg : Expr} {z : Str} {pz : Pos} {scope : Scope} {a b j : Nat} {live : Bool} (hc : X.calm = true) (hN : X.N.Nodup) (hz : X.N[j]? = some z) (hv : Vis X.env.scope z) (hd : (z == ("__debug__" : Str)) = false) (hcd : (z == ("__classdict__" : Str)) = false)
    (ok : blkC X.N X.env.scope scope (ownOf X.N [a, b]) = true)
    (hg : ∀ (s : Shared) (H : Hp) (C : Addr) (cl : List (Str × Addr)) (fp : List Addr), PG (X.blk s H scope (compEnvC scope cl C X.env) fp) tg (gTup X.K 2 (gCons (gName a) (gCons (gName b) gNil))))
    (he : ∀ (s : Shared) (H : Hp) (C : Addr) (cl : List (Str × Addr)) (fp : List Addr), PE (X.blk s H scope (compEnvC scope cl C X.env) fp) elt (tVar b))
    (hs : ∀ x, foldedSetIterable (.Name z pz) X.env x = pure x) :
    SE X W (.ListComp elt [⟨tg, .Name z pz, [], 0⟩] scope pos) (ev φ (.sndN live a b (.var j))) := by
  have hab : a ∈ [a, b] ∧ b ∈ [a, b] := ⟨by simp, by simp⟩
  refine PE.imp (pe_lock (pe_lc (pos := pos) (tt := tYes) hc hN (pi_keysN (pe_var hz hv hd hcd)) (blkOk_by ok) hg (fun _ _ _ _ _ => pts_nil) he hs)) fun σ H Q ⟨Fr, ρ, s, h, r, sr, ok⟩ => ?_
  conv at ok => unfold ev
  split at ok
  case isFalse => exact ok.elim
  rename_i hb
  conv at ok => unfold ev
  split at ok
  case h_2 => exact ok.elim
  rename_i d hd'
  obtain ⟨p, q, k⟩ := okR_lift ok
  unfold sndND at q
  split at q
  case h_2 => cases q
  rename_i ds hds
  obtain ⟨ks, hk, hds⟩ := Option.bind_eq_some_iff.mp hds
  unfold keysN at hk
  split at hk
  case h_2 => cases hk
  rename_i n
  split at hk
  case h_2 => cases hk
  rename_i kvs hn
  cases hk
  obtain ⟨v, hσ, dv⟩ := sr.get j _ hd'
  obtain ⟨ad, xs, rfl, ha, e3, nr⟩ := r.dctN dv hn
  obtain ⟨vs, rs, hl, hat⟩ := snds_of nr hds
  rw [ownOf_snd]
  refine ⟨ad, NDict ad xs, e3, True.intro, fun od => ⟨.ref ad, hσ, ad, od, xs, rfl, upd_same, fun Dd hD => ?_⟩⟩
  have hne : Dd ≠ ad := by rintro rfl; rw [upd_same] at hD; cases hD
  have hD0 : H Dd = none := by rw [upd_ne hne] at hD; exact hD
  have hz : xs.length ≤ sizeLine := by rw [← hl, ← rs.length]; exact mkL_len q
  refine ⟨fun i m H' => m = xs.length - i ∧ i ≤ xs.length ∧ H' = upd (upd H ad (.frz od (NDict ad xs))) Dd (.lst (vs.take i)), ⟨xs.length, by simp, Nat.zero_le _, by simp⟩, ?_⟩
  rintro i m H2 ⟨rfl, hle, rfl⟩
  have hfa : upd (upd H ad (.frz od (NDict ad xs))) Dd (.lst (vs.take i)) ad = some (.frz od (NDict ad xs)) := by rw [upd_ne (Ne.symm hne), upd_same]
  by_cases hlt : i < xs.length
  · refine .inr ⟨⟨hfa, hlt⟩, fun H' => H' = upd (upd H ad (.frz od (NDict ad xs))) Dd (.lst (vs.take (i + 1))), fun H' e => ⟨xs.length - (i + 1), by omega, rfl, hlt, e⟩, ?_⟩
    rintro x H3 ⟨rfl, p', hp, rfl⟩
    obtain ⟨w, v, hvi, hq⟩ := hat i p' hp
    have h1 : p'.2.1 ≠ ad := by
      intro z
      rw [z, e3] at hq
      unfold NDict at hq
      cases hq
    have h2 : p'.2.1 ≠ Dd := by intro z; rw [z, hD0] at hq; cases hq
    refine ⟨p'.2.1, [w, v], rfl, SqT.of (by rw [upd_ne h2, upd_ne h1]; exact hq), rfl, w, [v], rfl, v, [], rfl, rfl, ?_, ?_⟩
    · show wipe (((wipe σ [a, b]).set a (some w)).set b (some v)) [a, b] = wipe σ [a, b]
      rw [wipe_set hab.2, wipe_set hab.1, wipe_idem]
    · refine ⟨v, ?_, vs.take i, upd_same, by rw [List.length_take]; omega, ?_⟩
      · rw [List.getElem?_set_self]
        rw [List.length_set, wipe_length, ← sr.len]; exact hb
      · rw [upd_upd]
        congr 2
        rw [List.take_succ, hvi]; rfl
  · have hi : i = xs.length := by omega
    subst hi
    refine .inl ⟨⟨hfa, Nat.le_refl _⟩, hfa, ?_⟩
    have e : upd (upd (upd H ad (.frz od (NDict ad xs))) Dd (.lst (vs.take xs.length))) ad (NDict ad xs) = upd H Dd (.lst vs) := by
      funext c
      by_cases h1 : c = ad
      · subst h1; rw [upd_same, upd_ne (Ne.symm hne)]; exact e3.symm
      · rw [upd_ne h1]
        by_cases h2 : c = Dd
        · subst h2; rw [upd_same, upd_same, ← hl, List.take_length]
        · rw [upd_ne h2, upd_ne h1, upd_ne h2]
    rw [e]
    exact Kont.lst k q r rs hD0
end
end FF

/-! FFMath: reckoning with the evaluator. -/
namespace FF
open PySem PySem.Spec L2
/-- r ends well, as P says -/
def Wp {α : Type} (r : R α) (P : α → Prop) : Prop := ∃ a, r = .ok a ∧ P a
theorem Wp.ok {α : Type} {a : α} {P : α → Prop} (h : P a) : Wp (.ok a) P := ⟨a, rfl, h⟩
theorem Wp.bind {α β : Type} {r : R α} {f : α → R β} {P : β → Prop} (h : Wp r fun a => Wp (f a) P) : Wp (r.bind f) P := by
  obtain ⟨a, rfl, b, e, q⟩ := h
  exact ⟨b, e, q⟩
theorem Wp.mono {α : Type} {r : R α} {P Q : α → Prop} (h : Wp r P) (i : ∀ a, P a → Q a) : Wp r Q := let ⟨a, e, q⟩ := h; ⟨a, e, i a q⟩
theorem Wp.of_eq {α : Type} {r r' : R α} {P : α → Prop} (h : Wp r' P) (e : r = r') : Wp r P := e ▸ h
theorem Wp.hush {α : Type} {r : R α} {P : α → Prop} (h : Wp r P) : Wp (FF.hush r) P := by
  obtain ⟨a, rfl, q⟩ := h
  exact ⟨a, rfl, q⟩
/-- a for: the invariant by the turn -/
theorem wp_loopF {w : Watch} {step : D → Env' → Hq → R Fl} {Q : Fl → Prop} (I : Nat → Env' → Hq → Prop) : ∀ (xs : List D) (k : Nat) (s : Env') (h : Hq), I k s h →
    (∀ i d s h, xs[i]? = some d → I (k + i) s h → stands h w = true ∧ Wp (step d s h) fun
      | .nx s h => I (k + i + 1) s h
      | .ct s h => I (k + i + 1) s h
      | .bk s h => Q (.nx s h)
      | .rt d h => Q (.rt d h)) →
    (∀ s h, I (k + xs.length) s h → stands h w = true ∧ Q (.nx s h)) → Wp (loopF w step xs s h) Q
  | [], k, s, h, i0, _, fin => by
    obtain ⟨a, b⟩ := fin s h i0
    unfold loopF
    rw [if_pos a]
    exact .ok b
  | x :: xs, k, s, h, i0, st, fin => by
    obtain ⟨a, b⟩ := st 0 x s h rfl i0
    unfold loopF
    rw [if_pos a]
    refine .bind (b.mono fun f q => ?_)
    have go : ∀ s h, I (k + 1) s h → Wp (loopF w step xs s h) Q := fun s h j => wp_loopF I xs (k + 1) s h j
      (fun i d s h e z => by
        have := st (i + 1) d s h e (by rw [show k + (i + 1) = k + 1 + i by omega]; exact z)
        rw [show k + (i + 1) = k + 1 + i by omega] at this
        exact this)
      (fun s h z => fin s h (by rw [List.length_cons, show k + (xs.length + 1) = k + 1 + xs.length by omega]; exact z))
    cases f with
    | nx s h => exact go s h q
    | ct s h => exact go s h q
    | bk s h => exact .ok q
    | rt d h => exact .ok q
/-- a comprehension's turns, the invariant by the turn -/
theorem wp_turns {w : Watch} {step : D → Hq → R (Option D × Hq)} {Q : List D × Hq → Prop} (I : Nat → List D → Hq → Prop) : ∀ (xs : List D) (k : Nat) (acc : List D) (h : Hq), I k acc h →
    (∀ i d acc h, xs[i]? = some d → I (k + i) acc h → stands h w = true ∧ acc.length + 1 ≤ 16777216 ∧ Wp (step d h) fun r => I (k + i + 1) (match r.1 with | some y => acc ++ [y] | none => acc) r.2) →
    (∀ acc h, I (k + xs.length) acc h → stands h w = true ∧ Q (acc, h)) → Wp (turns w step xs acc h) Q
  | [], k, acc, h, i0, _, fin => by
    obtain ⟨a, b⟩ := fin acc h i0
    unfold turns
    rw [if_pos a]
    exact .ok b
  | x :: xs, k, acc, h, i0, st, fin => by
    obtain ⟨a, l, b⟩ := st 0 x acc h rfl i0
    unfold turns
    rw [if_pos a]
    refine .bind (b.mono fun f q => ?_)
    rw [show lineOk (acc.length + 1) = true from decide_eq_true l, if_pos rfl]
    exact wp_turns I xs (k + 1) _ f.2 q
      (fun i d acc h e z => by
        have := st (i + 1) d acc h e (by rw [show k + (i + 1) = k + 1 + i by omega]; exact z)
        rw [show k + (i + 1) = k + 1 + i by omega] at this
        exact this)
      (fun acc h z => fin acc h (by rw [List.length_cons, show k + (xs.length + 1) = k + 1 + xs.length by omega]; exact z))
/-! ### trees that are shown -/
mutual
def D.Good (k : Nat) : D → Prop
  | .non => True
  | .bl _ => True
  | .int i => i.natAbs < 10 ^ k
  | .str s => ∀ c ∈ s.cps.toList, c < 16 ^ 8
  | .tup ds => D.Goods k ds
  | .lst ds => D.Goods k ds
  | .ktp ns => ∀ i ∈ ns, i.natAbs < 10 ^ k
  | _ => False
def D.Goods (k : Nat) : List D → Prop
  | [] => True
  | d :: ds => D.Good k d ∧ D.Goods k ds
end
mutual
def D.bulk : D → Nat
  | .str s => s.cps.size
  | .tup ds => D.bulks ds
  | .lst ds => D.bulks ds
  | .ktp ns => ns.length
  | _ => 0
def D.bulks : List D → Nat
  | [] => 0
  | d :: ds => D.bulk d + 1 + D.bulks ds
end
mutual
def D.deepn : D → Nat
  | .tup ds => D.deepns ds + 1
  | .lst ds => D.deepns ds + 1
  | .ktp _ => 1
  | _ => 0
def D.deepns : List D → Nat
  | [] => 0
  | d :: ds => max (D.deepn d) (D.deepns ds)
end
/-- its tree -/
structure PyOf (k : Nat) (d : D) (p : PyData) : Prop where
  py : D.py d = some p
  short : p.leavesShort (k + 1) = true
  show' : p.showable = true
  nod : p.hasDict = false
  bulk : p.bulk = d.bulk
  deep : p.depth = d.deepn
structure PysOf (k : Nat) (d : List D) (p : List PyData) : Prop where
  py : D.pys d = some p
  short : PyData.leavesShortAll (k + 1) p = true
  show' : PyData.showableAll p = true
  nod : PyData.hasDictAll p = false
  bulk : PyData.bulkAll p = D.bulks d
  deep : PyData.depthAll p = D.deepns d
theorem int_py {k : Nat} (hk : 0 < k) (hk2 : k ≤ 500) {i : Int} (g : i.natAbs < 10 ^ k) : PyOf k (.int i) (.int i) := by
  refine ⟨by unfold D.py; rfl, ?_, ?_, rfl, rfl, rfl⟩
  · unfold PyData.leavesShort
    refine decide_eq_true ?_
    have := int_text_length_le10 hk g
    show (Str.ofString (toString i)).length ≤ k + 1
    rw [ofString_length]; exact this
  · unfold PyData.showable
    refine decide_eq_true ?_
    by_cases z : i.natAbs = 0
    · rw [z]; decide
    · refine (Nat.log2_lt z).mpr (Nat.lt_of_lt_of_le g ?_)
      calc 10 ^ k ≤ 10 ^ 500 := Nat.pow_le_pow_right (by decide) hk2
        _ ≤ 2 ^ 1920 := by decide +kernel
theorem ints_py {k : Nat} (hk : 0 < k) (hk2 : k ≤ 500) : ∀ ns : List Int, (∀ i ∈ ns, i.natAbs < 10 ^ k) → PyData.leavesShortAll (k + 1) (ns.map .int) = true ∧ PyData.showableAll (ns.map .int) = true ∧ PyData.hasDictAll (ns.map .int) = false ∧ PyData.bulkAll (ns.map .int) = ns.length ∧ PyData.depthAll (ns.map .int) = 0
  | [], _ => ⟨rfl, rfl, rfl, rfl, rfl⟩
  | n :: ns, g => by
    obtain ⟨q1, q2, q3, q4, q5⟩ := ints_py hk hk2 ns fun i hi => g i (List.mem_cons_of_mem _ hi)
    have p := int_py hk hk2 (g n List.mem_cons_self)
    refine ⟨?_, ?_, ?_, ?_, ?_⟩
    · rw [List.map_cons]; unfold PyData.leavesShortAll; rw [p.short, q1]; rfl
    · rw [List.map_cons]; unfold PyData.showableAll; rw [p.show', q2]; rfl
    · rw [List.map_cons]; unfold PyData.hasDictAll; rw [p.nod, q3]; rfl
    · rw [List.map_cons]; unfold PyData.bulkAll; rw [p.bulk, q4, D.bulk, List.length_cons]
      all_goals first | omega | simp
    · rw [List.map_cons]; unfold PyData.depthAll; rw [p.deep, q5, D.deepn]
      all_goals simp
mutual
theorem good_py {k : Nat} (hk : 0 < k) (hk2 : k ≤ 500) : ∀ d : D, d.Good k → ∃ p, PyOf k d p
  | .non, _ => ⟨.none, by unfold D.py; rfl, rfl, rfl, rfl, rfl, rfl⟩
  | .bl b, _ => ⟨.bool b, by unfold D.py; rfl, rfl, rfl, rfl, rfl, rfl⟩
  | .int i, g => by
    unfold D.Good at g
    refine ⟨.int i, by unfold D.py; rfl, ?_, ?_, rfl, rfl, rfl⟩
    · unfold PyData.leavesShort
      refine decide_eq_true ?_
      have := int_text_length_le10 hk g
      show (Str.ofString (toString i)).length ≤ k + 1
      rw [ofString_length]; exact this
    · unfold PyData.showable
      refine decide_eq_true ?_
      by_cases z : i.natAbs = 0
      · rw [z]; decide
      · refine (Nat.log2_lt z).mpr (Nat.lt_of_lt_of_le g ?_)
        calc 10 ^ k ≤ 10 ^ 500 := Nat.pow_le_pow_right (by decide) hk2
          _ ≤ 2 ^ 1920 := by decide +kernel
  | .str s, g => by
    unfold D.Good at g
    refine ⟨.str s, by unfold D.py; rfl, ?_, rfl, rfl, rfl, rfl⟩
    unfold PyData.leavesShort
    exact List.all_eq_true.mpr fun c hc => decide_eq_true (g c hc)
  | .tup ds, g => by
    unfold D.Good at g
    obtain ⟨ps, q⟩ := goods_py hk hk2 ds g
    exact ⟨.tuple ps, by unfold D.py; rw [q.py]; rfl, q.short, q.show', q.nod, q.bulk, by unfold PyData.depth D.deepn; rw [q.deep]⟩
  | .lst ds, g => by
    unfold D.Good at g
    obtain ⟨ps, q⟩ := goods_py hk hk2 ds g
    exact ⟨.list ps, by unfold D.py; rw [q.py]; rfl, q.short, q.show', q.nod, q.bulk, by unfold PyData.depth D.deepn; rw [q.deep]⟩
  | .scr _, g => g.elim
  | .ktp ns, g => by
    unfold D.Good at g
    obtain ⟨q1, q2, q3, q4, q5⟩ := ints_py hk hk2 ns g
    refine ⟨.tuple (ns.map .int), by unfold D.py; rfl, q1, q2, q3, ?_, ?_⟩
    · show PyData.bulkAll (ns.map .int) = _
      unfold D.bulk; exact q4
    · show PyData.depthAll (ns.map .int) + 1 = _
      unfold D.deepn; rw [q5]
  | .ref _, g => g.elim
  | .dct _, g => g.elim
  | .exn _ _, g => g.elim
theorem goods_py {k : Nat} (hk : 0 < k) (hk2 : k ≤ 500) : ∀ ds : List D, D.Goods k ds → ∃ p, PysOf k ds p
  | [], _ => ⟨[], by unfold D.pys; rfl, rfl, rfl, rfl, rfl, rfl⟩
  | d :: ds, g => by
    unfold D.Goods at g
    obtain ⟨p, q⟩ := good_py hk hk2 d g.1
    obtain ⟨ps, qs⟩ := goods_py hk hk2 ds g.2
    refine ⟨p :: ps, by unfold D.pys; rw [q.py, qs.py], ?_, ?_, ?_, ?_, ?_⟩
    · unfold PyData.leavesShortAll; rw [q.short, qs.short]; rfl
    · unfold PyData.showableAll; rw [q.show', qs.show']; rfl
    · unfold PyData.hasDictAll; rw [q.nod, qs.nod]; rfl
    · unfold PyData.bulkAll D.bulks; rw [q.bulk, qs.bulk]
    · unfold PyData.depthAll D.deepns; rw [q.deep, qs.deep]
end
mutual
theorem good_melt {k : Nat} {g : List D → Option (List D)} {h : Hq} : ∀ d : D, d.Good k → D.melt g h d = some d
  | .non, _ => by unfold D.melt; rfl
  | .bl _, _ => by unfold D.melt; rfl
  | .int _, _ => by unfold D.melt; rfl
  | .str _, _ => by unfold D.melt; rfl
  | .tup ds, q => by unfold D.Good at q; unfold D.melt; rw [goods_melt ds q]; rfl
  | .lst ds, q => by unfold D.Good at q; unfold D.melt; rw [goods_melt ds q]; rfl
  | .scr _, g => g.elim
  | .ktp _, _ => by unfold D.melt; rfl
  | .ref _, g => g.elim
  | .dct _, g => g.elim
  | .exn _ _, g => g.elim
theorem goods_melt {k : Nat} {g : List D → Option (List D)} {h : Hq} : ∀ ds : List D, D.Goods k ds → D.melts g h ds = some ds
  | [], _ => by unfold D.melts; rfl
  | d :: ds, q => by unfold D.Goods at q; unfold D.melts; rw [good_melt d q.1, goods_melt ds q.2]
end
/-- its text -/
def D.shown (d : D) : Str := match D.py d with | some p => p.shown | none => ""
theorem repr_good {k : Nat} {d : D} (h : Hq) (g : d.Good k) (hk : 0 < k) (hk2 : k ≤ 500) (hb : (k + 3) * d.bulk + (k + 1) ≤ 16777216) (hd : d.deepn ≤ 64) (h8 : 8 ≤ k + 1) : reprD d h = some (.str d.shown, h) := by
  obtain ⟨p, q⟩ := good_py hk hk2 d g
  have m : melt1 h d = some d := by
    unfold melt1 meltN
    rw [goods_melt (k := k) [d] (by unfold D.Goods; exact ⟨g, by unfold D.Goods; trivial⟩)]
  have e : pyOf h d = some p := by unfold pyOf; rw [m]; exact q.py
  unfold reprD
  rw [e]
  have ok : showOk p = true := by
    unfold showOk lineOk
    rw [q.show', q.nod]
    have := PyData.shown_le_bulk (k + 1) h8 p q.short
    rw [q.bulk] at this
    simp only [Bool.not_false, Bool.true_and, Bool.and_eq_true, decide_eq_true_eq]
    exact ⟨by rw [q.deep]; exact hd, Nat.le_trans this (by rw [show k + 1 + 2 = k + 3 by omega]; exact hb)⟩
  show (if showOk p then some (D.str p.shown, h) else none) = _
  rw [if_pos ok]
  unfold D.shown
  rw [q.py]
theorem deepns_map {α : Type} {f : α → D} {c : Nat} : ∀ {xs : List α}, (∀ x ∈ xs, (f x).deepn ≤ c) → D.deepns (xs.map f) ≤ c
  | [], _ => by rw [List.map_nil, D.deepns]; exact Nat.zero_le _
  | x :: xs, h => by
    rw [List.map_cons, D.deepns]
    exact Nat.max_le.mpr ⟨h x List.mem_cons_self, deepns_map fun y hy => h y (List.mem_cons_of_mem _ hy)⟩
/-! ### turns over things that are mapped -/
/-- a comprehension with a test or without, whose parts change nothing -/
theorem wp_fmap {α : Type} {w : Watch} {step : D → Hq → R (Option D × Hq)} {Q : List D × Hq → Prop} {h : Hq} (f : α → D) (g : α → Option D) (as : List α) (hw : stands h w = true) (hl : as.length ≤ 16777216)
    (hs : ∀ a ∈ as, Wp (step (f a) h) fun r => r = (g a, h)) (q : Q (as.filterMap g, h)) : Wp (turns w step (as.map f) [] h) Q := by
  refine wp_turns (fun k acc h' => acc = (as.take k).filterMap g ∧ h' = h) _ 0 _ _ ⟨rfl, rfl⟩ ?_ ?_
  · rintro i d acc h' e ⟨rfl, rfl⟩
    rw [List.getElem?_map] at e
    cases q : as[i]? with
    | none => rw [q] at e; cases e
    | some a =>
      rw [q] at e; cases e
      have hi := (List.getElem?_eq_some_iff.mp q).1
      have l1 := List.length_filterMap_le g (as.take (0 + i))
      rw [List.length_take] at l1
      refine ⟨hw, by omega, (hs a (List.mem_of_getElem? q)).mono ?_⟩
      rintro _ rfl
      rw [Nat.zero_add, List.take_add_one, q, List.filterMap_append]
      cases g' : g a with
      | none => simp [g']
      | some y => simp [g']
  · rintro acc h' ⟨rfl, rfl⟩
    rw [Nat.zero_add, List.length_map, List.take_length]
    exact ⟨hw, q⟩
theorem wp_map {α : Type} {w : Watch} {step : D → Hq → R (Option D × Hq)} {Q : List D × Hq → Prop} {h : Hq} (f : α → D) (g : α → D) (as : List α) (hw : stands h w = true) (hl : as.length ≤ 16777216)
    (hs : ∀ a ∈ as, Wp (step (f a) h) fun r => r = (some (g a), h)) (q : Q (as.map g, h)) : Wp (turns w step (as.map f) [] h) Q :=
  wp_fmap f (fun a => some (g a)) as hw hl hs (by rw [show as.filterMap (fun a => some (g a)) = as.map g from congrFun (List.filterMap_eq_map (f := g)) as]; exact q)
/-- a for whose turns go on -/
theorem wp_fold {α σ : Type} {w : Watch} {step : D → Env' → Hq → R Fl} {Q : Fl → Prop} (f : α → D) (next : σ → α → σ) (Rl : σ → Env' → Hq → Prop) : ∀ (as : List α) (t : σ) (s : Env') (h : Hq), Rl t s h →
    (∀ t a s h, a ∈ as → Rl t s h → stands h w = true ∧ Wp (step (f a) s h) fun
      | .nx s h => Rl (next t a) s h
      | .ct s h => Rl (next t a) s h
      | _ => False) →
    (∀ s h, Rl (as.foldl next t) s h → stands h w = true ∧ Q (.nx s h)) → Wp (loopF w step (as.map f) s h) Q
  | [], t, s, h, i0, _, fin => by
    obtain ⟨a, b⟩ := fin s h i0
    rw [List.map_nil]
    unfold loopF
    rw [if_pos a]
    exact .ok b
  | x :: xs, t, s, h, i0, st, fin => by
    obtain ⟨a, b⟩ := st t x s h List.mem_cons_self i0
    rw [List.map_cons]
    unfold loopF
    rw [if_pos a]
    refine .bind (b.mono fun fl q => ?_)
    have go : ∀ s h, Rl (next t x) s h → Wp (loopF w step (xs.map f) s h) Q := fun s h j => wp_fold f next Rl xs (next t x) s h j (fun t a s h m => st t a s h (List.mem_cons_of_mem _ m)) fin
    cases fl with
    | nx s h => exact go s h q
    | ct s h => exact go s h q
    | bk s h => exact q.elim
    | rt d h => exact q.elim
/-- a while: an invariant and what falls -/
theorem wp_loopW {test : Env' → Hq → R (Bool × Hq)} {step : Env' → Hq → R Fl} {Q : Fl → Prop} (I : Env' → Hq → Nat → Prop)
    (st : ∀ s h m, I s h m → Wp (test s h) fun p => (p.1 = false ∧ Q (.nx s p.2)) ∨ (p.1 = true ∧ Wp (step s p.2) fun
      | .nx s h => ∃ m', m' < m ∧ I s h m'
      | .ct s h => ∃ m', m' < m ∧ I s h m'
      | .bk s h => Q (.nx s h)
      | .rt d h => Q (.rt d h))) : ∀ (n m : Nat) (s : Env') (h : Hq), m < n → I s h m → Wp (loopW test step n s h) Q
  | 0, m, s, h, l, _ => absurd l (Nat.not_lt_zero _)
  | n + 1, m, s, h, l, i => by
    unfold loopW
    refine .bind ((st s h m i).mono ?_)
    rintro ⟨b, h1⟩ (⟨rfl, q⟩ | ⟨rfl, w⟩)
    · exact .ok q
    · refine .bind (w.mono fun fl q => ?_)
      cases fl with
      | nx s h => obtain ⟨m', l', j⟩ := q; exact wp_loopW I st n m' s h (by omega) j
      | ct s h => obtain ⟨m', l', j⟩ := q; exact wp_loopW I st n m' s h (by omega) j
      | bk s h => exact .ok q
      | rt d h => exact .ok q
end FF

/-! FFWp: step by step through a core text. -/
namespace FF
open PySem PySem.Spec L2
def OkO {α : Type} (o : Option α) (P : α → Prop) : Prop := ∃ a, o = some a ∧ P a
def Cd (c : Bool) (A B : Prop) : Prop := (c = true → A) ∧ (c = false → B)
theorem OkO.of {α : Type} {o : Option α} {a : α} {P : α → Prop} (e : o = some a) (p : P a) : OkO o P := ⟨a, e, p⟩
theorem Cd.tt {A B : Prop} (a : A) : Cd true A B := ⟨fun _ => a, fun z => Bool.noConfusion z⟩
theorem Cd.ff {A B : Prop} (b : B) : Cd false A B := ⟨fun z => Bool.noConfusion z, fun _ => b⟩
theorem Wp.lift {α : Type} {o : Option α} {P : α → Prop} (h : OkO o P) : Wp (FF.lift o) P := let ⟨a, e, p⟩ := h; ⟨a, by rw [e]; rfl, p⟩
section
variable {φ : Fn} {s : Env'} {h : Hq} {P : D × Hq → Prop} {PA : List D × Hq → Prop} {PO : Option Int × Hq → Prop} {PB : Bool × Hq → Prop} {PI : Its' → Prop} {PF : Fl → Prop}
theorem x_var {i : Nat} {d : D} (e : s[i]? = some (some d)) (p : P (d, h)) : Wp (ev φ (.var i) s h) P := ⟨(d, h), by unfold ev; rw [e], p⟩
theorem x_const {d : D} (p : P (d, h)) : Wp (ev φ (.const d) s h) P := ⟨(d, h), by unfold ev; rfl, p⟩
theorem x_bin {op : Operator} {live : Bool} {a b : Ex} (w : Wp (ev φ a s h) fun (x, h1) => Wp (ev φ b s h1) fun (y, h2) => OkO (binop op live x y h2) P) : Wp (ev φ (.bin op live a b) s h) P := by
  unfold ev; exact .bind (w.mono fun ⟨_, _⟩ w => .bind (w.mono fun ⟨_, _⟩ w => .lift w))
theorem x_neg {a : Ex} (w : Wp (ev φ a s h) fun (x, h1) => OkO (negD x h1) P) : Wp (ev φ (.neg a) s h) P := by unfold ev; exact .bind (w.mono fun ⟨_, _⟩ w => .lift w)
theorem x_testOf {r : R (D × Hq)} (w : Wp r fun (x, h1) => OkO (truth h1 x) fun c => PB (c, h1)) : Wp (testOf r) PB := by
  refine .bind (w.mono fun ⟨_, _⟩ w => ?_)
  obtain ⟨c, e, k⟩ := w
  try dsimp only
  rw [e]
  exact .ok k
theorem x_cmp {op : CmpOp} {a b : Ex} (w : Wp (ev φ a s h) fun (x, h1) => Wp (ev φ b s h1) fun (y, h2) => OkO (cmpop op x y h2) P) : Wp (ev φ (.cmp op a b) s h) P := by
  unfold ev; exact .bind (w.mono fun ⟨_, _⟩ w => .bind (w.mono fun ⟨_, _⟩ w => .lift w))
theorem x_and {a b : Ex} (w : Wp (ev φ a s h) fun (x, h1) => OkO (truth h1 x) fun c => Cd c (Wp (ev φ b s h1) P) (P (x, h1))) : Wp (ev φ (.andV a b) s h) P := by
  unfold ev
  refine .bind (w.mono fun ⟨_, _⟩ w => ?_)
  obtain ⟨c, e, t, f⟩ := w
  try dsimp only
  rw [e]
  cases c with
  | true => exact t rfl
  | false => exact .ok (f rfl)
theorem x_or {a b : Ex} (w : Wp (ev φ a s h) fun (x, h1) => OkO (truth h1 x) fun c => Cd c (P (x, h1)) (Wp (ev φ b s h1) P)) : Wp (ev φ (.orV a b) s h) P := by
  unfold ev
  refine .bind (w.mono fun ⟨_, _⟩ w => ?_)
  obtain ⟨c, e, t, f⟩ := w
  try dsimp only
  rw [e]
  cases c with
  | true => exact .ok (t rfl)
  | false => exact f rfl
theorem x_ife {t a b : Ex} (w : Wp (ev φ t s h) fun (x, h1) => OkO (truth h1 x) fun c => Cd c (Wp (ev φ a s h1) P) (Wp (ev φ b s h1) P)) : Wp (ev φ (.ife t a b) s h) P := by
  unfold ev
  refine .bind (x_testOf (w.mono fun ⟨_, _⟩ w => ?_))
  obtain ⟨c, e, t, f⟩ := w
  refine ⟨c, e, ?_⟩
  cases c with
  | true => exact t rfl
  | false => exact f rfl
theorem x_tup {es : Exs} (w : Wp (evs φ es s h) fun (xs, h1) => OkO (mkT xs h1) P) : Wp (ev φ (.tup es) s h) P := by unfold ev; exact .bind (w.mono fun ⟨_, _⟩ w => .lift w)
theorem x_lst {live : Bool} {es : Exs} (w : Wp (evs φ es s h) fun (xs, h1) => OkO (mkL live xs h1) P) : Wp (ev φ (.lst live es) s h) P := by unfold ev; exact .bind (w.mono fun ⟨_, _⟩ w => .lift w)
/-- a comprehension's turn -/
def stepC (φ : Fn) (c : Tg) (own : List Nat) (ifs : Exs) (elt : Ex) (s : Env') (x : D) (h : Hq) : R (Option D × Hq) := match asg c x (wipe' s own) with
  | some s' => hush ((evIf φ ifs s' h).bind fun (b, h) => if b then (ev φ elt s' h).bind fun (y, h) => .ok (some y, h) else .ok (none, h))
  | none => .stuck
theorem x_comp {live : Bool} {tg : Tg} {it : It} {ifs : Exs} {elt : Ex} {own : List Nat} (w : Wp (evIt φ it s h) fun (xs, wa, h1) => Wp (turns wa (stepC φ tg own ifs elt s) xs [] h1) fun (ys, h2) => OkO (mkL live ys h2) P) : Wp (ev φ (.comp live tg it ifs elt own) s h) P := by
  unfold ev; exact .bind (w.mono fun ⟨_, _, _⟩ w => .bind (w.mono fun ⟨_, _⟩ w => .lift w))
theorem x_stepC {c : Tg} {own : List Nat} {ifs : Exs} {elt : Ex} {x : D} {PS : Option D × Hq → Prop} (w : OkO (asg c x (wipe' s own)) fun s' => Wp (evIf φ ifs s' h) fun (b, h1) => Cd b (Wp (ev φ elt s' h1) fun (y, h2) => PS (some y, h2)) (PS (none, h1))) : Wp (stepC φ c own ifs elt s x h) PS := by
  obtain ⟨s', e, w⟩ := w
  unfold stepC
  rw [e]
  refine .hush (.bind (w.mono fun b w => ?_))
  obtain ⟨⟨⟩ | ⟨⟩, h1⟩ := b
  · exact .ok (w.2 rfl)
  · exact .bind ((w.1 rfl).mono fun ⟨_, _⟩ w => .ok w)
theorem x_ix {a i : Ex} (w : Wp (ev φ a s h) fun (x, h1) => Wp (ev φ i s h1) fun (y, h2) => OkO (ixD x y h2) P) : Wp (ev φ (.ix a i) s h) P := by unfold ev; exact .bind (w.mono fun ⟨_, _⟩ w => .bind (w.mono fun ⟨_, _⟩ w => .lift w))
theorem x_slice {a : Ex} {lo hi : Exo} (w : Wp (ev φ a s h) fun (x, h1) => Wp (evO φ lo s h1) fun (l, h2) => Wp (evO φ hi s h2) fun (u, h3) => OkO (sliceD x l u h3) P) : Wp (ev φ (.slice a lo hi) s h) P := by
  unfold ev; exact .bind (w.mono fun ⟨_, _⟩ w => .bind (w.mono fun ⟨_, _⟩ w => .bind (w.mono fun ⟨_, _⟩ w => .lift w)))
theorem x_call {f : Nat} {es : Exs} (w : Wp (evs φ es s h) fun (xs, h1) => Wp (φ f xs h1) P) : Wp (ev φ (.call f es) s h) P := by unfold ev; exact .bind (w.mono fun ⟨_, _⟩ w => w)
theorem x_bi {f : Bi} {live : Bool} {es : Exs} (w : Wp (evs φ es s h) fun (xs, h1) => OkO (biD f live xs h1) P) : Wp (ev φ (.bi f live es) s h) P := by unfold ev; exact .bind (w.mono fun ⟨_, _⟩ w => .lift w)
theorem x_me {m : Me} {o : Ex} {es : Exs} (w : Wp (ev φ o s h) fun (x, h1) => OkO (meKind m x h1) fun k => Wp (evs φ es s h1) fun (xs, h2) => OkO (meD k m x xs h2) P) : Wp (ev φ (.me m o es) s h) P := by
  unfold ev
  refine .bind (w.mono fun ⟨_, _⟩ w => ?_)
  obtain ⟨k, e, w⟩ := w
  try dsimp only
  rw [e]
  exact .bind (w.mono fun ⟨_, _⟩ w => .lift w)
theorem x_newN (p : P (.ref h.length, h ++ [.dctN []])) : Wp (ev φ .newN s h) P := ⟨_, by unfold ev; rfl, p⟩
theorem x_dispN {k v : Ex} (w : Wp (ev φ k s (h ++ [.dctN []])) fun (x, h1) => Wp (ev φ v s h1) fun (y, h2) => OkO (dispND h.length x y h2) P) : Wp (ev φ (.dispN k v) s h) P := by
  unfold ev
  exact .bind (w.mono fun ⟨_, _⟩ w => .bind (w.mono fun ⟨_, _⟩ w => .lift w))
theorem x_listN {live : Bool} {e : Ex} (w : Wp (ev φ e s h) fun (x, h1) => OkO (listND live x h1) P) : Wp (ev φ (.listN live e) s h) P := by unfold ev; exact .bind (w.mono fun ⟨_, _⟩ w => .lift w)
theorem x_sndN {live : Bool} {a b : Nat} {e : Ex} (w : b < s.length ∧ Wp (ev φ e s h) fun (x, h1) => OkO (sndND live x h1) P) : Wp (ev φ (.sndN live a b e) s h) P := by unfold ev; rw [if_pos w.1]; exact .bind (w.2.mono fun ⟨_, _⟩ w => .lift w)
theorem x_anil (p : PA ([], h)) : Wp (evs φ .nil s h) PA := ⟨_, by unfold evs; rfl, p⟩
theorem x_acons {e : Ex} {es : Exs} (w : Wp (ev φ e s h) fun (x, h1) => Wp (evs φ es s h1) fun (xs, h2) => PA (x :: xs, h2)) : Wp (evs φ (.cons e es) s h) PA := by
  unfold evs; exact .bind (w.mono fun ⟨_, _⟩ w => .bind (w.mono fun ⟨_, _⟩ w => .ok w))
theorem x_no (p : PO (none, h)) : Wp (evO φ .no s h) PO := ⟨_, by unfold evO; rfl, p⟩
theorem x_yes {e : Ex} (w : Wp (ev φ e s h) fun (x, h1) => ∃ i, x = .int i ∧ PO (some i, h1)) : Wp (evO φ (.yes e) s h) PO := by
  unfold evO
  refine .bind (w.mono fun p w => ?_)
  obtain ⟨d, h1⟩ := p
  obtain ⟨i, e, k⟩ := w
  try dsimp only at e
  subst e
  exact .ok k
theorem x_if0 (p : PB (true, h)) : Wp (evIf φ .nil s h) PB := ⟨_, by unfold evIf; rfl, p⟩
theorem x_if1 {e : Ex} (w : Wp (ev φ e s h) fun (x, h1) => OkO (truth h1 x) fun c => PB (c, h1)) : Wp (evIf φ (.cons e .nil) s h) PB := by unfold evIf; exact x_testOf w
theorem x_iex {e : Ex} (w : Wp (ev φ e s h) fun (x, h1) => OkO (itD x h1) PI) : Wp (evIt φ (.ex e) s h) PI := by unfold evIt; exact .bind (w.mono fun ⟨_, _⟩ w => .lift w)
theorem x_range1 {e : Ex} (w : Wp (ev φ e s h) fun (x, h1) => OkO (rng1D x h1) PI) : Wp (evIt φ (.range1 e) s h) PI := by unfold evIt; exact .bind (w.mono fun ⟨_, _⟩ w => .lift w)
theorem x_enum {e : Ex} (w : Wp (ev φ e s h) fun (x, h1) => OkO (enD x h1) PI) : Wp (evIt φ (.enum (.ex e)) s h) PI := by unfold evIt; exact .bind (w.mono fun ⟨_, _⟩ w => .lift w)
theorem x_zip {a b : Ex} (w : Wp (ev φ a s h) fun (x, h1) => Wp (ev φ b s h1) fun (y, h2) => OkO (zipD x y h2) PI) : Wp (evIt φ (.zip a b) s h) PI := by unfold evIt; exact .bind (w.mono fun ⟨_, _⟩ w => .bind (w.mono fun ⟨_, _⟩ w => .lift w))
theorem x_set {tg : Tg} {e : Ex} (w : Wp (ev φ e s h) fun (x, h1) => OkO (asg tg x s) fun s' => PF (.nx s' h1)) : Wp (exS φ (.set tg e) s h) PF := by
  unfold exS
  refine .bind (w.mono fun ⟨_, _⟩ w => ?_)
  obtain ⟨s', e, k⟩ := w
  try dsimp only
  rw [e]
  exact .ok k
theorem x_setIx {o i e : Ex} (w : Wp (ev φ e s h) fun (v, h1) => Wp (ev φ o s h1) fun (x, h2) => Wp (ev φ i s h2) fun (k, h3) => OkO (setD x k v h3) fun h => PF (.nx s h)) : Wp (exS φ (.setIx o i e) s h) PF := by
  unfold exS
  exact .bind (w.mono fun ⟨_, _⟩ w => .bind (.hush (w.mono fun ⟨_, _⟩ w => .bind (.hush (w.mono fun ⟨_, _⟩ w => .bind (.lift (let ⟨a, e, z⟩ := w; ⟨a, e, .ok z⟩)))))))
theorem x_setN {o i e : Ex} (w : Wp (ev φ e s h) fun (v, h1) => Wp (ev φ o s h1) fun (x, h2) => Wp (ev φ i s h2) fun (k, h3) => OkO (setND x k v h3) fun h => PF (.nx s h)) : Wp (exS φ (.setN o i e) s h) PF := by
  unfold exS
  exact .bind (w.mono fun ⟨_, _⟩ w => .bind (.hush (w.mono fun ⟨_, _⟩ w => .bind (.hush (w.mono fun ⟨_, _⟩ w => .bind (.lift (let ⟨a, e, z⟩ := w; ⟨a, e, .ok z⟩)))))))
theorem x_expr {e : Ex} (w : Wp (ev φ e s h) fun (_, h1) => PF (.nx s h1)) : Wp (exS φ (.expr e) s h) PF := by unfold exS; exact .bind (w.mono fun ⟨_, _⟩ w => .ok w)
theorem x_ret {e : Ex} (w : Wp (ev φ e s h) fun (x, h1) => PF (.rt x h1)) : Wp (exS φ (.ret e) s h) PF := by unfold exS; exact .bind (w.mono fun ⟨_, _⟩ w => .ok w)
theorem x_ite {t : Ex} {a b : Sms} (w : Wp (ev φ t s h) fun (x, h1) => OkO (truth h1 x) fun c => Cd c (Wp (exB φ a s h1) PF) (Wp (exB φ b s h1) PF)) : Wp (exS φ (.ite t a b) s h) PF := by
  unfold exS
  refine .bind (x_testOf (w.mono fun ⟨_, _⟩ w => ?_))
  obtain ⟨c, e, t, f⟩ := w
  refine ⟨c, e, ?_⟩
  cases c with
  | true => exact t rfl
  | false => exact f rfl
def stepL (φ : Fn) (c : Tg) (b : Sms) (x : D) (s : Env') (h : Hq) : R Fl := match asg c x s with | some s' => exB φ b s' h | none => .stuck
theorem x_stepL {c : Tg} {b : Sms} {x : D} (w : OkO (asg c x s) fun s' => Wp (exB φ b s' h) PF) : Wp (stepL φ c b x s h) PF := by
  obtain ⟨s', e, w⟩ := w
  unfold stepL
  rw [e]
  exact w
theorem x_for {tg : Tg} {it : It} {b : Sms} (w : Wp (evIt φ it s h) fun (xs, wa, h1) => Wp (loopF wa (stepL φ tg b) xs s h1) PF) : Wp (exS φ (.for tg it b) s h) PF := by unfold exS; exact .bind (w.mono fun ⟨_, _, _⟩ w => w)
theorem x_while {t : Ex} {b : Sms} (w : Wp (loopW (fun s h => testOf (ev φ t s h)) (fun s h => exB φ b s h) fuel s h) PF) : Wp (exS φ (.while t b) s h) PF := by unfold exS; exact w
theorem x_nil (p : PF (.nx s h)) : Wp (exB φ .nil s h) PF := ⟨_, by unfold exB; rfl, p⟩
def Nxt (φ : Fn) (r : Sms) (PF : Fl → Prop) : Fl → Prop
  | .nx s h => Wp (exB φ r s h) PF
  | f => PF f
theorem x_cons {a : Sm} {r : Sms} (w : Wp (exS φ a s h) (Nxt φ r PF)) : Wp (exB φ (.cons a r) s h) PF := by
  unfold exB
  refine .bind (w.mono fun f w => ?_)
  cases f with
  | nx s h => exact w
  | rt _ _ => exact .ok w
  | bk _ _ => exact .ok w
  | ct _ _ => exact .ok w
theorem nxt_nx {r : Sms} (w : Wp (exB φ r s h) PF) : Nxt φ r PF (.nx s h) := w
theorem nxt_rt {r : Sms} {d : D} (w : PF (.rt d h)) : Nxt φ r PF (.rt d h) := w
theorem end_rt {d : D} (p : P (d, h)) : Wp (endOf (.rt d h)) P := ⟨_, rfl, p⟩
end
/-! what is asked of one reckoning -/
section
variable {h : Hq} {P : D × Hq → Prop} {live : Bool}
theorem o_ne {x y : D} {b : Bool} (e : eqD h x y = some b) (p : P (.bl (!b), h)) : OkO (cmpop .NotEq x y h) P := ⟨_, by unfold cmpop; rw [e]; rfl, p⟩
theorem o_mul {i j : Int} (e : mulOk i j = true) (p : P (.int (i * j), h)) : OkO (binop .Mult live (.int i) (.int j) h) P := ⟨_, by simp [binop, mulD, e], p⟩
theorem o_div {i j : Int} (h0 : 0 < j) (h1 : j.natAbs.log2 < 9000) (p : P (.int (i / j), h)) : OkO (binop .FloorDiv live (.int i) (.int j) h) P := ⟨_, by simp [binop, int2, h0, h1], p⟩
theorem o_mod {i j : Int} (h0 : 0 < j) (p : P (.int (i % j), h)) : OkO (binop .Mod live (.int i) (.int j) h) P := ⟨_, by simp [binop, int2, h0], p⟩
theorem o_ixL {ds : List D} {i : Int} {d : D} (e : at? ds i = some d) (p : P (d, h)) : OkO (ixD (.lst ds) (.int i) h) P := ⟨_, by simp [ixD, itemsOf, e, ofO], p⟩
theorem o_ixT {ds : List D} {i : Int} {d : D} (e : at? ds i = some d) (p : P (d, h)) : OkO (ixD (.tup ds) (.int i) h) P := ⟨_, by simp [ixD, itemsOf, e, ofO], p⟩
theorem o_ixR {n : Nat} {ds : List D} {i : Int} {d : D} (hn : h[n]? = some (.lst ds)) (e : at? ds i = some d) (p : P (d, h)) : OkO (ixD (.ref n) (.int i) h) P := ⟨_, by simp [ixD, hn, e, ofO], p⟩
theorem o_app {n : Nat} {ds : List D} {d : D} (hn : h[n]? = some (.lst ds)) (hl : ds.length < 16777216) (p : P (.non, h.set n (.lst (ds ++ [d])))) : OkO (meD .lst .append (.ref n) [d] h) P := ⟨_, by simp [meD, appendD, hn, hl, hset], p⟩
theorem o_kind {n : Nat} {ds : List D} {m : Me} {PK : Kd → Prop} (hn : h[n]? = some (.lst ds)) (hf : meFits m .lst = true) (p : PK .lst) : OkO (meKind m (.ref n) h) PK := ⟨_, by simp [meKind, kdOf, hn, hf], p⟩
theorem o_rng1 {j : Int} {PI : Its' → Prop} (h0 : -(2 ^ 62) ≤ j) (h1 : j < 2 ^ 62) (p : PI (rangeL 0 j, [], h)) : OkO (rng1D (.int j) h) PI := ⟨_, by simp only [rng1D]; rw [if_pos ⟨h0, h1⟩], p⟩
theorem o_lst {ds : List D} (hl : ds.length ≤ 16777216) (p : P (.lst ds, h)) : OkO (mkL false ds h) P := ⟨_, by simp [mkL, lineOk, hl], p⟩
theorem o_new {ds : List D} (hl : ds.length ≤ 16777216) (p : P (.ref h.length, h ++ [.lst ds])) : OkO (mkL true ds h) P := ⟨_, by simp [mkL, lineOk, hl], p⟩
end
theorem rangeL_get {lo hi : Int} {i : Nat} {d : D} (e : (rangeL lo hi)[i]? = some d) : d = .int (lo + i) ∧ lo + i < hi := by
  unfold rangeL at e
  rw [List.getElem?_map] at e
  cases q : (List.range (hi - lo).toNat)[i]? with
  | none => rw [q] at e; cases e
  | some j =>
    rw [q] at e
    obtain ⟨h1, h2⟩ := List.getElem?_eq_some_iff.mp q
    rw [List.getElem_range] at h2
    rw [List.length_range] at h1
    subst h2
    cases e
    exact ⟨rfl, by omega⟩
theorem rangeL_len {lo hi : Int} : (rangeL lo hi).length = (hi - lo).toNat := by unfold rangeL; rw [List.length_map, List.length_range]
def Sms.drop : Sms → Nat → Sms
  | s, 0 => s
  | .nil, _ + 1 => .nil
  | .cons _ r, n + 1 => r.drop n
def Sms.nth : Sms → Nat → Sm
  | .cons a _, 0 => a
  | .cons _ r, n + 1 => r.nth n
  | .nil, _ => .pass
/-- the block of a loop -/
def Sm.blk : Sm → Sms
  | .for _ _ b => b
  | .while _ b => b
  | _ => .nil
theorem at_mod {α : Type} {xs : List α} {i : Int} (h0 : 0 ≤ i) (h1 : i < xs.length) : at? xs i = some (xs[i.toNat]'(by omega)) := by
  obtain ⟨j, rfl⟩ := Int.eq_ofNat_of_zero_le h0
  have hj : j < xs.length := by omega
  unfold at?
  exact atI_nat (j := j) (List.getElem?_eq_getElem hj)
/-! ### what raises -/
def Xr {α : Type} (r : R α) (e : D) (h : Hq) : Prop := r = .exc e h
section
variable {φ : Fn} {s : Env'} {h h2 : Hq} {e : D} {PF : Fl → Prop}
theorem Xr.bind {α β : Type} {r : R α} {f : α → R β} (x : Xr r e h2) : Xr (r.bind f) e h2 := by
  rw [show r = .exc e h2 from x]
  rfl
end
end FF

/-! FFReel: the drawing of a law's things from its script. -/
namespace FF
open PySem PySem.Spec L2
/-- the reel of a script -/
structure Reel where
  deep : List Int
  cells : List Int
  stamp : Int
  count : Int
structure Reel.Ok (r : Reel) : Prop where
  some' : 0 < r.cells.length
  few : r.cells.length ≤ 64
  fewD : r.deep.length ≤ 64
  s0 : 0 ≤ r.stamp
  s1 : r.stamp < 4294967296
def Reel.h (r : Reel) (rest : Hq) : Hq := .lst (r.deep.map .int) :: .dct [(.inr "deep", .ref 0), (.inr "cells", .lst (r.cells.map .int)), (.inr "stamp", .int r.stamp), (.inr "count", .int r.count)] :: rest
theorem unders_ints (n : Nat) : ∀ ns : List Int, D.unders n (ns.map .int) = true
  | [] => rfl
  | _ :: ns => by simp [D.unders, D.under, unders_ints n ns]
theorem pys_ints : ∀ ns : List Int, D.pys (ns.map .int) = some (ns.map .int)
  | [] => rfl
  | n :: ns => by simp [D.pys, D.py, pys_ints ns]
theorem melts_ints {g : List D → Option (List D)} {h : Hq} : ∀ ns : List Int, D.melts g h (ns.map .int) = some (ns.map .int)
  | [] => rfl
  | n :: ns => by simp [D.melts, D.melt, melts_ints ns]
theorem shaped_ints : ∀ ns : List Int, SeqAt.shaped (.list (ns.map .int)) = true := by
  intro ns
  have h1 : PyData.canLayAll0 (ns.map .int) = true := by
    induction ns with
    | nil => rfl
    | cons n ns ih => rw [List.map_cons, PyData.canLayAll0, PyData.canLay0, ih]; rfl
  have h2 : PyData.depthAll (ns.map .int) = 0 := by
    induction ns with
    | nil => rfl
    | cons n ns ih => rw [List.map_cons, PyData.depthAll, PyData.depth, ih (by rw [List.map_cons, PyData.canLayAll0, Bool.and_eq_true] at h1; exact h1.2)]; rfl
  unfold SeqAt.shaped PyData.canLay0 PyData.depth
  rw [h1, h2]; rfl
/-- a list of ints against [] -/
theorem eq_nil {h : Hq} {n : Nat} {ns : List Int} (e : h[n]? = some (.lst (ns.map .int))) : eqD h (.ref n) (.lst []) = some ns.isEmpty := by
  have m1 : pyOf h (.ref n) = some (.list (ns.map .int)) := by
    unfold pyOf melt1 meltN D.melts D.melt
    rw [e]
    simp [meltN, melts_ints, D.melts, D.py, pys_ints]
  have m2 : pyOf h (.lst []) = some (.list []) := by
    simp [pyOf, melt1, meltN, D.melts, D.melt, D.py, D.pys]
  unfold eqD scalEq
  rw [m1, m2]
  show eqPy _ _ = _
  unfold eqPy
  rw [shaped_ints ns, show SeqAt.shaped (.list []) = true from shaped_ints []]
  cases ns with
  | nil => rfl
  | cons a t => rfl
theorem mulOk_r {i j : Int} (h0 : -(2 ^ 64) < j) (h : j < 2 ^ 64) : mulOk i j = true := by
  unfold mulOk
  rw [show decide (-(2 ^ 64 : Int) < j ∧ j < 2 ^ 64) = true from decide_eq_true ⟨h0, h⟩]
  simp
theorem mulOk_l {i j : Int} (h0 : -(2 ^ 64) < i) (h : i < 2 ^ 64) : mulOk i j = true := by
  unfold mulOk
  rw [show decide (-(2 ^ 64 : Int) < i ∧ i < 2 ^ 64) = true from decide_eq_true ⟨h0, h⟩]
  simp
theorem thaw_int {n : Nat} {h : Hq} {z : Int} : thaw1 n h (.int z) = some (.int z) := by
  simp [thaw1, thawN, D.thaws, D.thaw, D.unders, D.under]
/-! ### what draws: a value, the reel goes on -/
/-- f draws: at args it tells what ok says -/
def Draws (f : List D → Hq → R (D × Hq)) (args : List D) (good : D → Prop) : Prop := ∀ (r : Reel) (rest : Hq), r.Ok → rest.all (Ob.under (rest.length + 2)) = true →
  Wp (f args (r.h rest)) fun p => ∃ r', p.2 = Reel.h r' rest ∧ r'.Ok ∧ good p.1
mutual
theorem thaw_pure {n : Nat} {g : List D → Option (List D)} {h : Hq} : ∀ d : D, d.pure = true → D.thaw n g h d = some d
  | .non, _ => by unfold D.thaw; rfl
  | .bl _, _ => by unfold D.thaw; rfl
  | .int _, _ => by unfold D.thaw; rfl
  | .str _, _ => by unfold D.thaw; rfl
  | .tup ds, q => by unfold D.pure at q; unfold D.thaw; rw [thaws_pure ds q]; rfl
  | .lst ds, q => by unfold D.pure at q; unfold D.thaw; rw [thaws_pure ds q]; rfl
  | .scr _, _ => by unfold D.thaw; rfl
  | .ktp _, _ => by unfold D.thaw; rfl
  | .ref _, q => by unfold D.pure at q; cases q
  | .dct ds, q => by unfold D.pure at q; unfold D.thaw; rw [thaws_pure ds q]; rfl
  | .exn _ ds, q => by unfold D.pure at q; unfold D.thaw; rw [thaws_pure ds q]; rfl
theorem thaws_pure {n : Nat} {g : List D → Option (List D)} {h : Hq} : ∀ ds : List D, D.pures ds = true → D.thaws n g h ds = some ds
  | [], _ => by unfold D.thaws; rfl
  | d :: ds, q => by
    unfold D.pures at q
    rw [Bool.and_eq_true] at q
    unfold D.thaws
    rw [thaw_pure d q.1, thaws_pure ds q.2]
end
theorem thaw1_pure {n : Nat} {h : Hq} {d : D} (q : d.pure = true) : thaw1 n h d = some d := by
  unfold thaw1 thawN
  rw [thaws_pure [d] (by unfold D.pures; rw [q]; rfl)]
mutual
theorem under_pure {n : Nat} : ∀ d : D, d.pure = true → d.under n = true
  | .non, _ => by unfold D.under; rfl
  | .bl _, _ => by unfold D.under; rfl
  | .int _, _ => by unfold D.under; rfl
  | .str _, _ => by unfold D.under; rfl
  | .tup ds, q => by unfold D.pure at q; unfold D.under; exact unders_pure ds q
  | .lst ds, q => by unfold D.pure at q; unfold D.under; exact unders_pure ds q
  | .scr _, _ => by unfold D.under; rfl
  | .ktp _, _ => by unfold D.under; rfl
  | .ref _, q => by unfold D.pure at q; cases q
  | .dct ds, q => by unfold D.pure at q; unfold D.under; exact unders_pure ds q
  | .exn _ ds, q => by unfold D.pure at q; unfold D.under; exact unders_pure ds q
theorem unders_pure {n : Nat} : ∀ ds : List D, D.pures ds = true → D.unders n ds = true
  | [], _ => by unfold D.unders; rfl
  | d :: ds, q => by
    unfold D.pures at q
    rw [Bool.and_eq_true] at q
    unfold D.unders
    rw [under_pure d q.1, unders_pure ds q.2]; rfl
end
theorem pures_map {α : Type} {f : α → D} : ∀ (xs : List α), (∀ x ∈ xs, (f x).pure = true) → D.pures (xs.map f) = true
  | [], _ => by rw [List.map_nil]; unfold D.pures; rfl
  | x :: xs, q => by
    rw [List.map_cons]; unfold D.pures
    rw [q x List.mem_cons_self, pures_map xs fun y hy => q y (List.mem_cons_of_mem _ hy)]; rfl
theorem pures_mem : ∀ {ds : List D}, D.pures ds = true → ∀ d ∈ ds, d.pure = true
  | [], _, _, h => by cases h
  | x :: ds, q, d, h => by
    unfold D.pures at q
    rw [Bool.and_eq_true] at q
    rcases List.mem_cons.mp h with rfl | h
    · exact q.1
    · exact pures_mem q.2 d h
theorem fin {r' : Reel} {rest : Hq} {x : D} {good : D → Prop} (ok : r'.Ok) (px : x.pure = true) (g : good x) : ∃ (r'' : Reel) (own : Hq), Reel.h r' rest = Reel.h r'' (rest ++ own) ∧ r''.Ok ∧ x.pure = true ∧ good x :=
  ⟨r', [], by rw [List.append_nil], ok, px, g⟩
abbrev IntIn (lo hi : Int) : D → Prop := fun x => ∃ z, x = .int z ∧ lo ≤ z ∧ z ≤ hi
abbrev T30 : Int := 1000000000000000000000000000000
abbrev Pow2 (a : Int) : Prop := a = 1 ∨ a = 2 ∨ a = 4 ∨ a = 8 ∨ a = 16 ∨ a = 32 ∨ a = 64
/-- a kind of a book: size and alignment -/
structure Kind (k : Int × Int) : Prop where
  s0 : 1 ≤ k.1
  s1 : k.1 ≤ T30
  a0 : 1 ≤ k.2
  a1 : k.2 ≤ 64
  ap : Pow2 k.2
def kindD (k : Int × Int) : D := .tup [.int k.1, .int k.2]
def bookD (b : List (Int × Int)) : D := .tup (b.map kindD)
abbrev BookIn (many : Nat) : D → Prop := fun x => ∃ b, x = bookD b ∧ b.length = many ∧ ∀ k ∈ b, Kind k
theorem kind_pure (k : Int × Int) : (kindD k).pure = true := rfl
mutual
theorem D.under_mono {n m : Nat} (hl : n ≤ m) : ∀ d : D, d.under n = true → d.under m = true
  | .non, _ => by unfold D.under; rfl
  | .bl _, _ => by unfold D.under; rfl
  | .int _, _ => by unfold D.under; rfl
  | .str _, _ => by unfold D.under; rfl
  | .tup ds, q => by unfold D.under at q ⊢; exact D.unders_mono hl ds q
  | .lst ds, q => by unfold D.under at q ⊢; exact D.unders_mono hl ds q
  | .scr _, _ => by unfold D.under; rfl
  | .ktp _, _ => by unfold D.under; rfl
  | .ref _, q => by unfold D.under at q ⊢; exact decide_eq_true (Nat.lt_of_lt_of_le (of_decide_eq_true q) hl)
  | .dct ds, q => by unfold D.under at q ⊢; exact D.unders_mono hl ds q
  | .exn _ ds, q => by unfold D.under at q ⊢; exact D.unders_mono hl ds q
theorem D.unders_mono {n m : Nat} (hl : n ≤ m) : ∀ ds : List D, D.unders n ds = true → D.unders m ds = true
  | [], _ => by unfold D.unders; rfl
  | d :: ds, q => by
    unfold D.unders at q ⊢
    rw [Bool.and_eq_true] at q
    rw [D.under_mono hl d q.1, D.unders_mono hl ds q.2]; rfl
end
theorem kvs_mono {κ : Type} {n m : Nat} (hl : n ≤ m) {kvs : List (κ × D)} (h : (kvs.all fun p => p.2.under n) = true) : (kvs.all fun p => p.2.under m) = true := by
  rw [List.all_eq_true] at h ⊢
  exact fun x hx => D.under_mono hl _ (h x hx)
theorem Ob.under_mono {n m : Nat} (hl : n ≤ m) : ∀ {o : Ob}, o.under n = true → o.under m = true
  | .lst ds, h => D.unders_mono hl ds h
  | .dct kvs, h => kvs_mono hl h
  | .dctT kvs, h => kvs_mono hl h
  | .dctN kvs, h => by
    have h : (kvs.all fun p => p.1.under n && p.2.under n) = true := h
    show (kvs.all fun p => p.1.under m && p.2.under m) = true
    rw [List.all_eq_true] at h ⊢
    intro x hx
    have := h x hx
    rw [Bool.and_eq_true] at this ⊢
    exact ⟨D.under_mono hl _ this.1, D.under_mono hl _ this.2⟩
  | .ins _ fs, h => kvs_mono hl h
  | .dead, _ => rfl
theorem ixN_at {n j : Nat} (h : j < n) : L2.ixN n (j : Int) = some j := by
  unfold L2.ixN
  rw [if_pos (by omega), if_pos (by omega)]; simp
theorem log_small {n : Nat} (h0 : 0 < n) (h1 : n ≤ 1000000) : (n : Int).natAbs.log2 < 9000 := by
  have : Nat.log2 n ≤ Nat.log2 1000000 := by
    rw [Nat.le_log2 (by decide)]
    exact Nat.le_trans (Nat.log2_self_le (by omega)) h1
  exact Nat.lt_of_le_of_lt this (by decide +kernel)
abbrev RowIn (n : Nat) (many : Nat) : D → Prop := fun x => ∃ ns : List Int, x = .tup (ns.map .int) ∧ ns.length = many ∧ ∀ z ∈ ns, 0 ≤ z ∧ z < n
theorem cut_few {α : Type} {xs : List α} {k : Nat} (h : xs.length ≤ k) : cut xs none (some (k : Int)) = xs := by
  unfold cut
  rw [HT.sIx_none, HT.sIx_nat, List.drop_zero, Nat.min_eq_right h, Nat.sub_zero, List.take_length]
theorem o_addL {a b : List D} {h : Hq} {P : D × Hq → Prop} (hl : a.length + b.length ≤ 16777216) (p : P (.lst (a ++ b), h)) : OkO (binop .Add false (.lst a) (.lst b) h) P := ⟨_, by simp [binop, addD, FF.lstOf, mkL, lineOk, hl], p⟩
theorem ints_get {ns : List Int} {i : Nat} {d : D} (e : (ns.map D.int)[i]? = some d) : ∃ z ∈ ns, d = .int z := by
  rw [List.getElem?_map] at e
  cases q : ns[i]? with
  | none => rw [q] at e; cases e
  | some z => rw [q] at e; cases e; exact ⟨z, List.mem_of_getElem? q, rfl⟩
end FF

/-! FFLay: rows laid, by the package's defs and the laws' own. -/
namespace FF
open PySem PySem.Spec L2
def R_raised : Def := ⟨.pure, 2, ["number", "step"], (.cons (.ret (.bin .Mult false (.neg (.bin .FloorDiv false (.neg (.var 0)) (.var 1))) (.var 1))) .nil)⟩
def R_laid : Def := ⟨.pure, 2, ["book", "row", "found", "end", "place", "size", "alignment", "begin"], (.cons (.set (.tup (.cons (.name 2) (.cons (.name 3) .nil))) (.tup (.cons (.lst true .nil) (.cons (.const (.int 0)) .nil)))) (.cons (.for (.name 4) (.ex (.var 1)) (.cons (.set (.tup (.cons (.name 5) (.cons (.name 6) .nil))) (.ix (.var 0) (.var 4))) (.cons (.set (.name 7) (.call 9 (.cons (.var 3) (.cons (.var 6) .nil)))) (.cons (.set (.name 3) (.bin .Add false (.var 7) (.var 5))) (.cons (.expr (.me .append (.var 2) (.cons (.tup (.cons (.var 7) (.cons (.var 3) .nil))) .nil))) .nil))))) (.cons (.ret (.bi .tuple false (.cons (.var 2) .nil))) .nil)))⟩
def R_greatest : Def := ⟨.pure, 2, ["book", "places", "place"], (.cons (.ret (.bi .max false (.cons (.comp false (.name 2) (.ex (.var 1)) .nil (.ix (.ix (.var 0) (.var 2)) (.const (.int 1))) [2]) .nil))) .nil)⟩
def R_roww : Def := ⟨.pure, 2, ["book", "row"], (.cons (.ret (.call 9 (.cons (.ix (.ix (.call 10 (.cons (.var 0) (.cons (.var 1) .nil))) (.neg (.const (.int 1)))) (.const (.int 1))) (.cons (.call 11 (.cons (.var 0) (.cons (.var 1) .nil))) .nil)))) .nil)⟩
/-! ### what the defs reckon -/
def upI (n s : Int) : Int := n + (0 - n) % s
def kindAt (b : List (Int × Int)) (z : Int) : Int × Int := b.getD z.toNat (1, 1)
def endsL (b : List (Int × Int)) : List Int → Int → List (Int × Int)
  | [], _ => []
  | z :: r, at' => (upI at' (kindAt b z).2, upI at' (kindAt b z).2 + (kindAt b z).1) :: endsL b r (upI at' (kindAt b z).2 + (kindAt b z).1)
def lastE (b : List (Int × Int)) : List Int → Int → Int
  | [], at' => at'
  | z :: r, at' => lastE b r (upI at' (kindAt b z).2 + (kindAt b z).1)
def stepI (b : List (Int × Int)) (ns : List Int) : Int := (ns.map fun z => (kindAt b z).2).foldl max 1
structure BookOk (b : List (Int × Int)) : Prop where
  len : b.length ≤ 1000
  kinds : ∀ k ∈ b, Kind k
structure RowOk (b : List (Int × Int)) (ns : List Int) : Prop where
  l0 : 0 < ns.length
  l1 : ns.length ≤ 100
  ins : ∀ z ∈ ns, 0 ≤ z ∧ z < b.length
def rowD (ns : List Int) : D := .tup (ns.map .int)
theorem kindAt_ok {b : List (Int × Int)} (hb : BookOk b) {z : Int} (h : 0 ≤ z ∧ z < b.length) : Kind (kindAt b z) ∧ at? (b.map kindD) z = some (kindD (kindAt b z)) := by
  obtain ⟨j, rfl⟩ := Int.eq_ofNat_of_zero_le h.1
  have hj : j < b.length := by omega
  have e : kindAt b (j : Int) = b[j] := by
    unfold kindAt
    rw [Int.toNat_natCast, List.getD_eq_getElem?_getD, List.getElem?_eq_getElem hj]; rfl
  rw [e]
  refine ⟨hb.kinds _ (List.getElem_mem hj), ?_⟩
  unfold at?
  exact atI_nat (j := j) (by rw [List.getElem?_map, List.getElem?_eq_getElem hj]; rfl)
theorem up_le {n s : Int} (h : 1 ≤ s) (h1 : s ≤ 64) : n ≤ upI n s ∧ upI n s ≤ n + 63 := by
  unfold upI
  have := Int.emod_nonneg (0 - n) (show s ≠ 0 by omega)
  have := Int.emod_lt_of_pos (0 - n) (show 0 < s by omega)
  omega
def UpOk (f : List D → Hq → R (D × Hq)) : Prop := ∀ (n s : Int) (h : Hq), 1 ≤ s → s ≤ 64 → Wp (f [.int n, .int s] h) fun p => p = (.int (upI n s), h)
theorem log64 {s : Int} (h : 1 ≤ s) (h1 : s ≤ 64) : s.natAbs.log2 < 9000 := by
  obtain ⟨j, rfl⟩ := Int.eq_ofNat_of_zero_le (show 0 ≤ s by omega)
  exact log_small (by omega) (by omega)
/-- a def without cells -/
theorem onExc_wp {h : Hq} {r : R (D × Hq)} {P : D × Hq → Prop} (w : Wp r P) : Wp (onExc h r) P := by
  obtain ⟨a, e, q⟩ := w
  exact ⟨a, by rw [e]; rfl, q⟩
theorem pure_def {φ : Fn} {d : Def} {args : List D} {h : Hq} {v : D} (hm : d.mode = .pure) (hn : args.length = d.nps) (ha : D.pures args = true) (hv : v.pure = true)
    (body : Wp (exB φ d.body (args.map some ++ List.replicate (d.names.length - d.nps) none) []) fun f => Wp (endOf f) fun p => thaw1 0 p.2 p.1 = some v) : Wp (runDef φ d args h) fun p => p = (v, h) := by
  unfold runDef
  rw [if_neg (by rw [hn]; simp), hm]
  show Wp (if D.pures args = true then onExc h (((exB φ d.body (args.map some ++ List.replicate (d.names.length - d.nps) none) []).bind endOf).bind (fun p => match thaw1 0 p.2 p.1 with | some y => .ok (y, h) | none => .stuck)) else .stuck) _
  rw [if_pos ha]
  refine onExc_wp ?_
  refine .bind (.bind (body.mono fun f w => w.mono fun p e => ?_))
  rw [e]
  exact .ok rfl
theorem raised_eq {n s : Int} (h : 1 ≤ s) : -(-n / s) * s = upI n s := by
  unfold upI
  have e := Int.emod_def (-n) s
  rw [Int.zero_sub, e, Int.neg_mul, Int.mul_comm]
  omega
theorem raised_ok {φ : Fn} : UpOk (runDef φ R_raised) := by
  intro n s h h0 h1
  refine pure_def rfl rfl rfl rfl ?_
  refine FF.x_cons ?_
  refine FF.x_ret ?_
  refine FF.x_bin ?_
  refine FF.x_neg ?_
  refine FF.x_bin ?_
  refine FF.x_neg ?_
  refine FF.x_var (by rfl) ?_
  refine FF.OkO.of rfl ?_
  refine FF.x_var (by rfl) ?_
  try dsimp only [List.set_cons_zero, List.set_cons_succ]
  refine o_div (by omega) (log64 h0 h1) ?_
  refine FF.OkO.of rfl ?_
  refine FF.x_var (by rfl) ?_
  try dsimp only [List.set_cons_zero, List.set_cons_succ]
  refine o_mul (mulOk_r (by omega) (by omega)) ?_
  refine FF.nxt_rt ?_
  try dsimp only [List.set_cons_zero, List.set_cons_succ]
  refine FF.end_rt ?_
  try dsimp only [List.set_cons_zero, List.set_cons_succ]
  rw [raised_eq h0]
  exact thaw1_pure rfl
def pairD (p : Int × Int) : D := .tup [.int p.1, .int p.2]
def LaidOk (f : List D → Hq → R (D × Hq)) : Prop := ∀ (b : List (Int × Int)) (ns : List Int) (h : Hq), BookOk b → RowOk b ns → Wp (f [bookD b, rowD ns] h) fun p => p = (.tup ((endsL b ns 0).map pairD), h)
theorem endsL_len (b : List (Int × Int)) : ∀ (ns : List Int) (n : Int), (endsL b ns n).length = ns.length
  | [], _ => rfl
  | z :: r, n => by rw [endsL, List.length_cons, List.length_cons, endsL_len b r]
theorem endsL_app (b : List (Int × Int)) (z : Int) : ∀ (ns : List Int) (n : Int), endsL b (ns ++ [z]) n = endsL b ns n ++ [(upI (lastE b ns n) (kindAt b z).2, upI (lastE b ns n) (kindAt b z).2 + (kindAt b z).1)]
  | [], _ => rfl
  | y :: r, n => by rw [List.cons_append, endsL, endsL_app b z r]; rfl
theorem lastE_app (b : List (Int × Int)) (z : Int) : ∀ (ns : List Int) (n : Int), lastE b (ns ++ [z]) n = upI (lastE b ns n) (kindAt b z).2 + (kindAt b z).1
  | [], _ => rfl
  | y :: r, n => by rw [List.cons_append, lastE, lastE_app b z r]; rfl
theorem book_pure (b : List (Int × Int)) : (bookD b).pure = true := by unfold bookD D.pure; exact pures_map b fun _ _ => rfl
theorem row_pure (ns : List Int) : (rowD ns).pure = true := by unfold rowD D.pure; exact pures_map ns fun _ _ => rfl
theorem pairs_pure (l : List (Int × Int)) : D.pures (l.map pairD) = true := pures_map l fun _ _ => rfl
theorem laid_ok {φ : Fn} (hu : UpOk (φ 9)) : LaidOk (runDef φ R_laid) := by
  intro b ns h hb hr
  refine pure_def rfl rfl ?_ ?_ ?_
  · simp [D.pures, book_pure, row_pure]
  · unfold D.pure; exact pairs_pure _
  refine FF.x_cons ?_
  refine FF.x_set ?_
  refine FF.x_tup ?_
  refine FF.x_acons ?_
  refine FF.x_lst ?_
  refine FF.x_anil ?_
  refine FF.OkO.of rfl ?_
  refine FF.x_acons ?_
  refine FF.x_const ?_
  refine FF.x_anil ?_
  refine FF.OkO.of rfl ?_
  refine FF.OkO.of rfl ?_
  refine FF.nxt_nx ?_
  try dsimp only [List.set_cons_zero, List.set_cons_succ]
  refine FF.x_cons ?_
  refine FF.x_for ?_
  refine FF.x_iex ?_
  refine FF.x_var (by rfl) ?_
  refine FF.OkO.of rfl ?_
  try dsimp only [List.set_cons_zero, List.set_cons_succ]
  refine wp_loopF (fun k s h => ∃ d4 d5 d6 d7 : Option D, s = [some (bookD b), some (rowD ns), some (.ref 0), some (.int (lastE b (ns.take k) 0)), d4, d5, d6, d7] ∧ h = [.lst ((endsL b (ns.take k) 0).map pairD)]) _ 0 _ _ ⟨_, _, _, _, rfl, rfl⟩ ?_ ?_
  · rintro i d s h e ⟨d4, d5, d6, d7, rfl, rfl⟩
    rw [Nat.zero_add]
    obtain ⟨z, hz, rfl⟩ := ints_get e
    have ez : ns[i]? = some z := by
      rw [List.getElem?_map] at e
      cases q : ns[i]? with
      | none => rw [q] at e; cases e
      | some y => rw [q] at e; cases e; rfl
    have hi := (List.getElem?_eq_some_iff.mp ez).1
    obtain ⟨hk, ek⟩ := kindAt_ok hb (hr.ins z hz)
    have et : ns.take (i + 1) = ns.take i ++ [z] := by rw [List.take_add_one, ez]; rfl
    refine ⟨rfl, ?_⟩
    refine FF.x_stepL ?_
    refine FF.OkO.of rfl ?_
    refine FF.x_cons ?_
    refine FF.x_set ?_
    refine FF.x_ix ?_
    refine FF.x_var (by rfl) ?_
    refine FF.x_var (by rfl) ?_
    try dsimp only [List.set_cons_zero, List.set_cons_succ]
    refine o_ixT (ds := b.map kindD) ek ?_
    refine FF.OkO.of rfl ?_
    refine FF.nxt_nx ?_
    try dsimp only [List.set_cons_zero, List.set_cons_succ]
    refine FF.x_cons ?_
    refine FF.x_set ?_
    refine FF.x_call ?_
    refine FF.x_acons ?_
    refine FF.x_var (by rfl) ?_
    refine FF.x_acons ?_
    refine FF.x_var (by rfl) ?_
    refine FF.x_anil ?_
    try dsimp only [List.set_cons_zero, List.set_cons_succ]
    refine (hu _ _ _ hk.a0 hk.a1).mono ?_
    rintro _ rfl
    refine FF.OkO.of rfl ?_
    refine FF.nxt_nx ?_
    try dsimp only [List.set_cons_zero, List.set_cons_succ]
    refine FF.x_cons ?_
    refine FF.x_set ?_
    refine FF.x_bin ?_
    refine FF.x_var (by rfl) ?_
    refine FF.x_var (by rfl) ?_
    refine FF.OkO.of rfl ?_
    refine FF.OkO.of rfl ?_
    refine FF.nxt_nx ?_
    try dsimp only [List.set_cons_zero, List.set_cons_succ]
    refine FF.x_cons ?_
    refine FF.x_expr ?_
    refine FF.x_me ?_
    refine FF.x_var (by rfl) ?_
    refine FF.OkO.of rfl ?_
    refine FF.x_acons ?_
    refine FF.x_tup ?_
    refine FF.x_acons ?_
    refine FF.x_var (by rfl) ?_
    refine FF.x_acons ?_
    refine FF.x_var (by rfl) ?_
    refine FF.x_anil ?_
    refine FF.OkO.of rfl ?_
    refine FF.x_anil ?_
    try dsimp only [List.set_cons_zero, List.set_cons_succ]
    refine o_app rfl (by rw [List.length_map, endsL_len, List.length_take]; have := hr.l1; omega) ?_
    refine FF.nxt_nx ?_
    try dsimp only [List.set_cons_zero, List.set_cons_succ]
    refine FF.x_nil ?_
    try dsimp only [List.set_cons_zero, List.set_cons_succ]
    rw [et, lastE_app, endsL_app, List.map_append]
    exact ⟨_, _, _, _, rfl, rfl⟩
  · rintro s h ⟨d4, d5, d6, d7, rfl, rfl⟩
    refine ⟨rfl, ?_⟩
    rw [Nat.zero_add, List.length_map, List.take_length]
    refine FF.nxt_nx ?_
    try dsimp only [List.set_cons_zero, List.set_cons_succ]
    refine FF.x_cons ?_
    refine FF.x_ret ?_
    refine FF.x_bi ?_
    refine FF.x_acons ?_
    refine FF.x_var (by rfl) ?_
    refine FF.x_anil ?_
    refine FF.OkO.of rfl ?_
    refine FF.nxt_rt ?_
    try dsimp only [List.set_cons_zero, List.set_cons_succ]
    refine FF.end_rt ?_
    try dsimp only [List.set_cons_zero, List.set_cons_succ]
    exact thaw1_pure (by unfold D.pure; exact pairs_pure _)
theorem intsOf_map : ∀ is : List Int, intsOf (is.map D.int) = some is
  | [] => rfl
  | i :: is => by
    show (intsOf (is.map D.int)).map (i :: ·) = _
    rw [intsOf_map is]; rfl
theorem o_max {a : Int} {is : List Int} {h : Hq} {P : D × Hq → Prop} (p : P (.int (is.foldl max a), h)) : OkO (biD .max false [.lst ((a :: is).map D.int)] h) P := by
  refine ⟨_, ?_, p⟩
  have e : intsL h (.lst ((a :: is).map D.int)) = some (a :: is) := by
    unfold intsL
    show (some ((a :: is).map D.int)).bind intsOf = _
    rw [Option.bind_some, intsOf_map]
  show maxD (.lst ((a :: is).map D.int)) h = _
  unfold maxD
  dsimp only
  rw [e]
  rfl
theorem o_sum {is : List Int} {h : Hq} {P : D × Hq → Prop} (p : P (.int is.sum, h)) : OkO (biD .sum false [.lst (is.map D.int)] h) P := by
  refine ⟨_, ?_, p⟩
  have e : intsL h (.lst (is.map D.int)) = some is := by
    unfold intsL
    show (some (is.map D.int)).bind intsOf = _
    rw [Option.bind_some, intsOf_map]
  show sumD (.lst (is.map D.int)) h = _
  unfold sumD
  dsimp only
  rw [e]
def StepOk (f : List D → Hq → R (D × Hq)) : Prop := ∀ (b : List (Int × Int)) (ns : List Int) (h : Hq), BookOk b → RowOk b ns → Wp (f [bookD b, rowD ns] h) fun p => p = (.int (stepI b ns), h)
theorem foldl_max_le (l : List Int) : ∀ a : Int, a ≤ l.foldl max a := by
  induction l with
  | nil => intro a; exact Int.le_refl a
  | cons x l ih => intro a; exact Int.le_trans (Int.le_max_left a x) (ih _)
theorem foldl_max_ub {l : List Int} {c : Int} (h : ∀ x ∈ l, x ≤ c) : ∀ a : Int, a ≤ c → l.foldl max a ≤ c := by
  induction l with
  | nil => intro a ha; exact ha
  | cons x l ih =>
    intro a ha
    refine ih (fun y hy => h y (List.mem_cons_of_mem _ hy)) _ ?_
    have := h x List.mem_cons_self
    exact Int.max_le.mpr ⟨ha, this⟩
theorem step_le {b : List (Int × Int)} {ns : List Int} (hb : BookOk b) (hr : RowOk b ns) : 1 ≤ stepI b ns ∧ stepI b ns ≤ 64 := by
  refine ⟨foldl_max_le _ _, foldl_max_ub (fun x hx => ?_) _ (by decide)⟩
  obtain ⟨z, hz, rfl⟩ := List.mem_map.mp hx
  exact (kindAt_ok hb (hr.ins z hz)).1.a1
theorem turns_core {φ : Fn} {Q : List D × Hq → Prop} {b : List (Int × Int)} {ns : List Int} {h : Hq} {s : Env'} {i0 i2 : Nat} {own : List Nat} {sel : Int × Int → Int} {j : Int} (hb : BookOk b) (hr : RowOk b ns)
    (hj : ∀ (k : Int × Int) (h : Hq) (P : D × Hq → Prop), P (.int (sel k), h) → OkO (ixD (kindD k) (.int j) h) P)
    (ha : ∀ x : D, ∃ s', asg (.name i2) x (wipe' s own) = some s' ∧ s'[i0]? = some (some (bookD b)) ∧ s'[i2]? = some (some x))
    (p : Q ((ns.map fun z => sel (kindAt b z)).map .int, h)) : Wp (turns [] (stepC φ (.name i2) own .nil (.ix (.ix (.var i0) (.var i2)) (.const (.int j))) s) (ns.map .int) [] h) Q := by
  have hlen : ns.length ≤ 16777216 := by have := hr.l1; omega
  refine wp_turns (fun k acc h' => acc = ((ns.take k).map fun z => sel (kindAt b z)).map .int ∧ h' = h) _ 0 _ _ ⟨rfl, rfl⟩ ?_ ?_
  · rintro i d acc h' e ⟨rfl, rfl⟩
    obtain ⟨z, hz, rfl⟩ := ints_get e
    have ez : ns[i]? = some z := by
      rw [List.getElem?_map] at e
      cases q : ns[i]? with
      | none => rw [q] at e; cases e
      | some y => rw [q] at e; cases e; rfl
    have hi := (List.getElem?_eq_some_iff.mp ez).1
    obtain ⟨hk, ek⟩ := kindAt_ok hb (hr.ins z hz)
    have et : ns.take (i + 1) = ns.take i ++ [z] := by rw [List.take_add_one, ez]; rfl
    refine ⟨rfl, by rw [List.length_map, List.length_map, List.length_take]; omega, ?_⟩
    obtain ⟨s', e1, e2, e3⟩ := ha (.int z)
    refine x_stepC ⟨s', e1, x_if0 (.tt ?_)⟩
    refine x_ix (x_ix (x_var e2 (x_var e3 (o_ixT (ds := b.map kindD) ek (x_const (hj _ _ _ ?_))))))
    refine ⟨?_, rfl⟩
    rw [Nat.zero_add, et, List.map_append, List.map_append]
    rfl
  · rintro acc h' ⟨rfl, rfl⟩
    refine ⟨rfl, ?_⟩
    rw [Nat.zero_add, List.length_map, List.take_length]
    exact p
theorem step_core {φ : Fn} {P : D × Hq → Prop} {b : List (Int × Int)} {ns : List Int} {h : Hq} {s : Env'} {i0 i1 i2 : Nat} (own : List Nat) {sel : Int × Int → Int} {j : Int} (hb : BookOk b) (hr : RowOk b ns) (hs : s[i1]? = some (some (rowD ns)))
    (hj : ∀ (k : Int × Int) (h : Hq) (P : D × Hq → Prop), P (.int (sel k), h) → OkO (ixD (kindD k) (.int j) h) P)
    (ha : ∀ x : D, ∃ s', asg (.name i2) x (wipe' s own) = some s' ∧ s'[i0]? = some (some (bookD b)) ∧ s'[i2]? = some (some x))
    (p : P (.lst ((ns.map fun z => sel (kindAt b z)).map .int), h)) : Wp (ev φ (.comp false (.name i2) (.ex (.var i1)) .nil (.ix (.ix (.var i0) (.var i2)) (.const (.int j))) own) s h) P := by
  refine FF.x_comp ?_
  refine FF.x_iex ?_
  refine x_var hs ?_
  refine ⟨_, (rfl : itD (rowD ns) h = some (ns.map D.int, [], h)), ?_⟩
  refine turns_core hb hr hj ha (o_lst ?_ p)
  have := hr.l1
  rw [List.length_map, List.length_map]; omega
theorem hj1 (k : Int × Int) (h : Hq) (P : D × Hq → Prop) (p : P (.int k.2, h)) : OkO (ixD (kindD k) (.int 1) h) P := ⟨_, rfl, p⟩
theorem step_eq {b : List (Int × Int)} {ns : List Int} (hb : BookOk b) (hr : RowOk b ns) : ∃ a is, (ns.map fun z => (kindAt b z).2) = a :: is ∧ is.foldl max a = stepI b ns := by
  have h0 := hr.l0
  cases ns with
  | nil => cases h0
  | cons z r =>
    refine ⟨_, _, rfl, ?_⟩
    unfold stepI
    have := (kindAt_ok hb (hr.ins z List.mem_cons_self)).1.a0
    show List.foldl max _ _ = List.foldl max (max 1 _) _
    rw [Int.max_eq_right this]
theorem greatest_ok {φ : Fn} : StepOk (runDef φ R_greatest) := by
  intro b ns h hb hr
  refine pure_def rfl rfl ?_ rfl ?_
  · simp [D.pures, book_pure, row_pure]
  obtain ⟨a, is, e1, e2⟩ := step_eq hb hr
  refine FF.x_cons ?_
  refine FF.x_ret ?_
  refine FF.x_bi ?_
  refine FF.x_acons ?_
  refine step_core [2] hb hr rfl hj1 (by intro x; exact ⟨_, rfl, rfl, rfl⟩) ?_
  rw [e1]
  refine FF.x_anil ?_
  try dsimp only [List.set_cons_zero, List.set_cons_succ]
  refine o_max ?_
  rw [e2]
  refine FF.nxt_rt ?_
  try dsimp only [List.set_cons_zero, List.set_cons_succ]
  refine FF.end_rt ?_
  try dsimp only [List.set_cons_zero, List.set_cons_succ]
  exact thaw1_pure rfl
def whole (b : List (Int × Int)) (ns : List Int) : Int := upI (lastE b ns 0) (stepI b ns)
def WholeOk (f : List D → Hq → R (D × Hq)) (v : List (Int × Int) → List Int → Int) : Prop := ∀ (b : List (Int × Int)) (ns : List Int) (h : Hq), BookOk b → RowOk b ns → Wp (f [bookD b, rowD ns] h) fun p => p = (.int (v b ns), h)
theorem ends_last {b : List (Int × Int)} {ns : List Int} (h0 : 0 < ns.length) (n : Int) : ∃ init x, endsL b ns n = init ++ [x] ∧ x.2 = lastE b ns n := by
  obtain ⟨r, z, rfl⟩ : ∃ r z, ns = r ++ [z] := by
    have hne : ns ≠ [] := List.length_pos_iff.mp h0
    exact ⟨_, _, (List.dropLast_concat_getLast hne).symm⟩
  exact ⟨_, _, endsL_app b z r n, (lastE_app b z r n).symm⟩
theorem ends_at {b : List (Int × Int)} {ns : List Int} (h0 : 0 < ns.length) (n : Int) : ∃ x : Int × Int, at? ((endsL b ns n).map pairD) (-1) = some (pairD x) ∧ x.2 = lastE b ns n := by
  obtain ⟨i, x, e1, e2⟩ := ends_last (b := b) h0 n
  refine ⟨x, ?_, e2⟩
  rw [e1, List.map_append]
  exact atI_last _ _
theorem whole_ok {φ : Fn} (hu : UpOk (φ 9)) (hl : LaidOk (φ 10)) (hs : StepOk (φ 11)) : WholeOk (runDef φ R_roww) whole := by
  intro b ns h hb hr
  refine pure_def rfl rfl ?_ rfl ?_
  · simp [D.pures, book_pure, row_pure]
  obtain ⟨x, ex, e2⟩ := ends_at (b := b) hr.l0 0
  refine FF.x_cons ?_
  refine FF.x_ret ?_
  refine FF.x_call ?_
  refine FF.x_acons ?_
  refine FF.x_ix ?_
  refine FF.x_ix ?_
  refine FF.x_call ?_
  refine FF.x_acons ?_
  refine FF.x_var (by rfl) ?_
  refine FF.x_acons ?_
  refine FF.x_var (by rfl) ?_
  refine FF.x_anil ?_
  try dsimp only [List.set_cons_zero, List.set_cons_succ]
  refine (hl b ns _ hb hr).mono ?_
  rintro _ rfl
  refine FF.x_neg ?_
  refine FF.x_const ?_
  refine FF.OkO.of rfl ?_
  try dsimp only [List.set_cons_zero, List.set_cons_succ]
  refine o_ixT ex ?_
  refine FF.x_const ?_
  refine FF.OkO.of rfl ?_
  refine FF.x_acons ?_
  refine FF.x_call ?_
  refine FF.x_acons ?_
  refine FF.x_var (by rfl) ?_
  refine FF.x_acons ?_
  refine FF.x_var (by rfl) ?_
  refine FF.x_anil ?_
  try dsimp only [List.set_cons_zero, List.set_cons_succ]
  refine (hs b ns _ hb hr).mono ?_
  rintro _ rfl
  have st := step_le hb hr
  refine FF.x_anil ?_
  try dsimp only [List.set_cons_zero, List.set_cons_succ]
  refine (hu _ _ _ st.1 st.2).mono ?_
  rintro _ rfl
  rw [e2]
  refine FF.nxt_rt ?_
  try dsimp only [List.set_cons_zero, List.set_cons_succ]
  refine FF.end_rt ?_
  try dsimp only [List.set_cons_zero, List.set_cons_succ]
  exact thaw1_pure rfl
/-! ### how great all this can be -/
theorem lastE_bd {b : List (Int × Int)} : ∀ {ns : List Int} {n : Int}, (∀ z ∈ ns, Kind (kindAt b z)) → 0 ≤ n → 0 ≤ lastE b ns n ∧ lastE b ns n ≤ n + ns.length * 1000000000000000000000000000063
  | [], n, _, h => ⟨h, by show n ≤ _; simp⟩
  | z :: r, n, hk, h => by
    have k := hk z List.mem_cons_self
    have u := up_le (n := n) k.a0 k.a1
    have k0 := k.s0
    have k1 := k.s1
    unfold T30 at k1
    have ih := lastE_bd (ns := r) (n := upI n (kindAt b z).2 + (kindAt b z).1) (fun y hy => hk y (List.mem_cons_of_mem _ hy)) (by omega)
    unfold lastE
    rw [List.length_cons]
    omega
theorem whole_bd {b : List (Int × Int)} {ns : List Int} (hb : BookOk b) (hr : RowOk b ns) : 0 ≤ whole b ns ∧ whole b ns ≤ 200000000000000000000000000000000 := by
  have st := step_le hb hr
  have l := lastE_bd (n := 0) (fun z hz => (kindAt_ok hb (hr.ins z hz)).1) (Int.le_refl 0)
  have u := up_le (n := lastE b ns 0) st.1 st.2
  have := hr.l1
  unfold whole
  omega
theorem pair_deep (p : Int × Int) : (D.tup [.int p.1, .int p.2]).deepn = 1 := by simp [D.deepn, D.deepns]
theorem beqS (x : Str) : (x == x) = true := by simp

end FF

/-! FFRooms: rooms, lacks, powers, units, by the package's defs and the laws' own. -/
namespace FF
open PySem PySem.Spec L2
def R_room : Def := ⟨.pure, 1, ["kind"], (.cons (.ret (.call 9 (.cons (.ix (.var 0) (.const (.int 0))) (.cons (.ix (.var 0) (.const (.int 1))) .nil)))) .nil)⟩
def R_rooms : Def := ⟨.pure, 1, ["book", "kind"], (.cons (.ret (.bi .tuple false (.cons (.comp false (.name 1) (.ex (.var 0)) .nil (.call 37 (.cons (.var 1) .nil)) [1]) .nil))) .nil)⟩
def R_lacks : Def := ⟨.pure, 1, ["book", "kind"], (.cons (.ret (.bi .tuple false (.cons (.comp false (.name 1) (.ex (.var 0)) .nil (.bin .Sub false (.call 37 (.cons (.var 1) .nil)) (.ix (.var 1) (.const (.int 0)))) [1]) .nil))) .nil)⟩
def R_power : Def := ⟨.pure, 1, ["number"], (.cons (.ret (.bin .BitAnd false (.var 0) (.neg (.var 0)))) .nil)⟩
def R_places : Def := ⟨.pure, 1, ["record", "place", "many"], (.cons (.ret (.comp false (.tup (.cons (.name 1) (.cons (.name 2) .nil))) (.enum (.ex (.var 0))) (.cons (.cmp .Gt (.var 2) (.const (.int 0))) .nil) (.var 1) [1, 2])) .nil)⟩
/-! ### powers of 2 -/
def p2 (n : Nat) : Nat := if 0 < n ∧ n % 2 = 0 then 2 * p2 (n / 2) else 1
termination_by n
decreasing_by omega
theorem p2_pos (n : Nat) : 0 < p2 n := by
  induction n using Nat.strongRecOn with
  | _ n ih =>
    rw [p2]
    split
    · have := ih (n / 2) (by omega); omega
    · omega
theorem p2_and (n : Nat) (h : 0 < n) : (n &&& (n - 1)) + p2 n = n := by
  induction n using Nat.strongRecOn with
  | _ n ih =>
    have d := @Nat.and_div_two n (n - 1)
    have m := @Nat.and_mod_two_eq_one n (n - 1)
    have m0 : (n &&& (n - 1)) % 2 = 0 := by
      rcases Nat.mod_two_eq_zero_or_one (n &&& (n - 1)) with q | q
      · exact q
      · have := (m.mp q); omega
    rw [p2]
    split
    · have := ih (n / 2) (by omega) (by omega)
      rw [show (n - 1) / 2 = n / 2 - 1 by omega] at d
      omega
    · rw [show (n - 1) / 2 = n / 2 by omega, Nat.and_self] at d
      omega
theorem p2_dvd (n : Nat) (h : 0 < n) : p2 n ∣ n := by
  induction n using Nat.strongRecOn with
  | _ n ih =>
    rw [p2]
    split
    · obtain ⟨k, e⟩ := ih (n / 2) (by omega) (by omega)
      exact ⟨k, by rw [Nat.mul_assoc, ← e]; omega⟩
    · exact Nat.one_dvd n
theorem p2_ge (k n : Nat) (h : 0 < n) (d : 2 ^ k ∣ n) : 2 ^ k ∣ p2 n := by
  induction k generalizing n with
  | zero => exact Nat.one_dvd _
  | succ k ih =>
    obtain ⟨c, rfl⟩ := d
    have hc : 0 < c := Nat.pos_of_ne_zero fun z => by subst z; simp at h
    have e : 2 ^ (k + 1) * c = 2 * (2 ^ k * c) := by rw [Nat.pow_succ]; ac_rfl
    rw [e] at h ⊢
    rw [p2, if_pos ⟨h, by omega⟩, Nat.mul_div_cancel_left _ (by decide), Nat.pow_succ, Nat.mul_comm]
    exact Nat.mul_dvd_mul_left 2 (ih _ (by omega) (Nat.dvd_mul_right _ _))
theorem p2_pow (n : Nat) : ∃ k, p2 n = 2 ^ k := by
  induction n using Nat.strongRecOn with
  | _ n ih =>
    rw [p2]
    split
    · obtain ⟨k, e⟩ := ih (n / 2) (by omega)
      exact ⟨k + 1, by rw [e, Nat.pow_succ, Nat.mul_comm]⟩
    · exact ⟨0, rfl⟩
theorem p2_le (n : Nat) (h : 0 < n) : p2 n ≤ n := Nat.le_of_dvd h (p2_dvd n h)
def powI (n : Int) : Int := (p2 n.toNat : Int)
theorem pow_and {n : Int} (h : 0 < n) : Builtin.bitAnd n (-n) = powI n := by
  obtain ⟨k, rfl⟩ := Int.eq_ofNat_of_zero_le (show 0 ≤ n by omega)
  rw [PyProof.Rows.bitAnd_pn (by omega) (by omega)]
  have e : (Builtin.bitNot (-(k : Int))).toNat = k - 1 := by
    have : Builtin.bitNot (-(k : Int)) = (k : Int) - 1 := by
      show - -(k : Int) - 1 = _; omega
    rw [this]; omega
  rw [e, Int.toNat_natCast]
  have := p2_and k (by omega)
  unfold powI
  rw [Int.toNat_natCast]
  omega
theorem powI_le {n : Int} (h : 0 < n) : powI n ≤ n := by have := p2_le n.toNat (by omega); unfold powI; omega
theorem powI_dvd {n : Int} (h : 0 < n) : powI n ∣ n := by
  have := p2_dvd n.toNat (by omega)
  unfold powI
  have e : n = (n.toNat : Int) := by omega
  rw [e, Int.toNat_natCast]
  exact Int.natCast_dvd_natCast.mpr this
theorem pow2_exp {a : Int} (h : Pow2 a) : ∃ k : Nat, a = ((2 ^ k : Nat) : Int) := by
  unfold Pow2 at h
  rcases h with rfl | rfl | rfl | rfl | rfl | rfl | rfl
  · exact ⟨0, rfl⟩
  · exact ⟨1, rfl⟩
  · exact ⟨2, rfl⟩
  · exact ⟨3, rfl⟩
  · exact ⟨4, rfl⟩
  · exact ⟨5, rfl⟩
  · exact ⟨6, rfl⟩
theorem powI_ge {a n : Int} (h : Pow2 a) (hn : 0 < n) (d : a ∣ n) : a ≤ powI n := by
  obtain ⟨k, rfl⟩ := pow2_exp h
  obtain ⟨m, rfl⟩ := Int.eq_ofNat_of_zero_le (show 0 ≤ n by omega)
  have d := Int.natCast_dvd_natCast.mp d
  have := Nat.le_of_dvd (p2_pos m) (p2_ge k m (by omega) d)
  unfold powI
  rw [Int.toNat_natCast]
  omega
/-! ### rooms -/
def roomI (k : Int × Int) : Int := upI k.1 k.2
def lackI (k : Int × Int) : Int := roomI k - k.1
theorem room_bd {k : Int × Int} (h : Kind k) : k.1 ≤ roomI k ∧ roomI k < k.1 + k.2 := by
  unfold roomI upI
  have := h.a0
  have := Int.emod_nonneg (0 - k.1) (show k.2 ≠ 0 by omega)
  have := Int.emod_lt_of_pos (0 - k.1) (show 0 < k.2 by omega)
  omega
theorem up_dvd {n s : Int} (h : 1 ≤ s) : s ∣ upI n s := by
  rw [← raised_eq h]
  exact Int.dvd_mul_left _ _
theorem room_dvd {k : Int × Int} (h : Kind k) : k.2 ∣ roomI k := up_dvd h.a0
def RoomOk (f : List D → Hq → R (D × Hq)) : Prop := ∀ (k : Int × Int) (h : Hq), Kind k → Wp (f [kindD k] h) fun p => p = (.int (roomI k), h)
theorem room_ok {φ : Fn} (hr : UpOk (φ 9)) : RoomOk (runDef φ R_room) := by
  intro k h hk
  refine pure_def rfl rfl rfl rfl ?_
  refine FF.x_cons ?_
  refine FF.x_ret ?_
  refine FF.x_call ?_
  refine FF.x_acons ?_
  refine FF.x_ix ?_
  refine FF.x_var (by rfl) ?_
  refine FF.x_const ?_
  refine FF.OkO.of rfl ?_
  refine FF.x_acons ?_
  refine FF.x_ix ?_
  refine FF.x_var (by rfl) ?_
  refine FF.x_const ?_
  refine FF.OkO.of rfl ?_
  refine FF.x_anil ?_
  try dsimp only [List.set_cons_zero, List.set_cons_succ]
  refine (hr _ _ _ hk.a0 hk.a1).mono ?_
  rintro _ rfl
  refine FF.nxt_rt ?_
  try dsimp only [List.set_cons_zero, List.set_cons_succ]
  refine FF.end_rt ?_
  try dsimp only [List.set_cons_zero, List.set_cons_succ]
  exact thaw1_pure rfl
def RoomsOk (f : List D → Hq → R (D × Hq)) (v : Int × Int → Int) : Prop := ∀ (b : List (Int × Int)) (h : Hq), BookOk b → Wp (f [bookD b] h) fun p => p = (rowD (b.map v), h)
theorem map_int {α : Type} (f : α → Int) (as : List α) : as.map (fun a => D.int (f a)) = (as.map f).map .int := by rw [List.map_map]; rfl
theorem rooms_ok {φ : Fn} (hr : RoomOk (φ 37)) : RoomsOk (runDef φ R_rooms) roomI := by
  intro b h hb
  have bl := hb.len
  refine pure_def rfl rfl ?_ (row_pure _) ?_
  · simp [D.pures, book_pure]
  refine FF.x_cons ?_
  refine FF.x_ret ?_
  refine FF.x_bi ?_
  refine FF.x_acons ?_
  refine FF.x_comp ?_
  refine FF.x_iex ?_
  refine FF.x_var (by rfl) ?_
  refine FF.OkO.of rfl ?_
  try dsimp only [List.set_cons_zero, List.set_cons_succ]
  refine wp_map kindD (fun k => .int (roomI k)) b (by rfl) (by omega) (fun k hk => ?_) ?_
  · refine FF.x_stepC ?_
    refine FF.OkO.of rfl ?_
    refine FF.x_if0 ?_
    refine FF.Cd.tt ?_
    refine FF.x_call ?_
    refine FF.x_acons ?_
    refine FF.x_var (by rfl) ?_
    refine FF.x_anil ?_
    try dsimp only [List.set_cons_zero, List.set_cons_succ]
    refine (hr k _ (hb.kinds k hk)).mono ?_
    rintro _ rfl
    try dsimp only [List.set_cons_zero, List.set_cons_succ]
  refine o_lst (by rw [List.length_map]; omega) ?_
  rw [map_int]
  refine FF.x_anil ?_
  refine FF.OkO.of rfl ?_
  refine FF.nxt_rt ?_
  try dsimp only [List.set_cons_zero, List.set_cons_succ]
  refine FF.end_rt ?_
  try dsimp only [List.set_cons_zero, List.set_cons_succ]
  exact thaw1_pure (row_pure _)
theorem lacks_ok {φ : Fn} (hr : RoomOk (φ 37)) : RoomsOk (runDef φ R_lacks) lackI := by
  intro b h hb
  have bl := hb.len
  refine pure_def rfl rfl ?_ (row_pure _) ?_
  · simp [D.pures, book_pure]
  refine FF.x_cons ?_
  refine FF.x_ret ?_
  refine FF.x_bi ?_
  refine FF.x_acons ?_
  refine FF.x_comp ?_
  refine FF.x_iex ?_
  refine FF.x_var (by rfl) ?_
  refine FF.OkO.of rfl ?_
  try dsimp only [List.set_cons_zero, List.set_cons_succ]
  refine wp_map kindD (fun k => .int (lackI k)) b (by rfl) (by omega) (fun k hk => ?_) ?_
  · refine FF.x_stepC ?_
    refine FF.OkO.of rfl ?_
    refine FF.x_if0 ?_
    refine FF.Cd.tt ?_
    refine FF.x_bin ?_
    refine FF.x_call ?_
    refine FF.x_acons ?_
    refine FF.x_var (by rfl) ?_
    refine FF.x_anil ?_
    try dsimp only [List.set_cons_zero, List.set_cons_succ]
    refine (hr k _ (hb.kinds k hk)).mono ?_
    rintro _ rfl
    refine FF.x_ix ?_
    refine FF.x_var (by rfl) ?_
    refine FF.x_const ?_
    refine FF.OkO.of rfl ?_
    refine FF.OkO.of rfl ?_
    try dsimp only [List.set_cons_zero, List.set_cons_succ]
    rfl
  refine o_lst (by rw [List.length_map]; omega) ?_
  rw [map_int]
  refine FF.x_anil ?_
  refine FF.OkO.of rfl ?_
  refine FF.nxt_rt ?_
  try dsimp only [List.set_cons_zero, List.set_cons_succ]
  refine FF.end_rt ?_
  try dsimp only [List.set_cons_zero, List.set_cons_succ]
  exact thaw1_pure (row_pure _)
def PowOk (f : List D → Hq → R (D × Hq)) : Prop := ∀ (n : Int) (h : Hq), 0 < n → n < 2 ^ 200 → Wp (f [.int n] h) fun p => p = (.int (powI n), h)
theorem power_ok {φ : Fn} : PowOk (runDef φ R_power) := by
  intro n h h0 _
  refine pure_def rfl rfl rfl rfl ?_
  refine FF.x_cons ?_
  refine FF.x_ret ?_
  refine FF.x_bin ?_
  refine FF.x_var (by rfl) ?_
  refine FF.x_neg ?_
  refine FF.x_var (by rfl) ?_
  refine FF.OkO.of rfl ?_
  refine FF.OkO.of rfl ?_
  refine FF.nxt_rt ?_
  try dsimp only [List.set_cons_zero, List.set_cons_succ]
  refine FF.end_rt ?_
  try dsimp only [List.set_cons_zero, List.set_cons_succ]
  rw [pow_and h0]
  exact thaw1_pure rfl
def minL : List Int → Int
  | [] => 0
  | a :: is => is.foldl min a
def maxL : List Int → Int
  | [] => 0
  | a :: is => is.foldl max a
theorem o_minL {is : List Int} {h : Hq} {P : D × Hq → Prop} (h0 : 0 < is.length) (p : P (.int (minL is), h)) : OkO (biD .min false [.lst (is.map D.int)] h) P := by
  cases is with
  | nil => cases h0
  | cons a is =>
    refine ⟨_, ?_, p⟩
    have e : intsL h (.lst ((a :: is).map D.int)) = some (a :: is) := by
      unfold intsL
      show (some ((a :: is).map D.int)).bind intsOf = _
      rw [Option.bind_some, intsOf_map]
    show minD (.lst ((a :: is).map D.int)) h = _
    unfold minD
    dsimp only
    rw [e]
    rfl
theorem o_maxL {is : List Int} {h : Hq} {P : D × Hq → Prop} (h0 : 0 < is.length) (p : P (.int (maxL is), h)) : OkO (biD .max false [.lst (is.map D.int)] h) P := by
  cases is with
  | nil => cases h0
  | cons a is => exact o_max p
theorem fmin_le : ∀ (l : List Int) (a : Int), l.foldl min a ≤ a ∧ ∀ x ∈ l, l.foldl min a ≤ x
  | [], a => ⟨Int.le_refl a, by simp⟩
  | y :: l, a => by
    obtain ⟨h1, h2⟩ := fmin_le l (min a y)
    refine ⟨by show l.foldl min (min a y) ≤ a; omega, fun x hx => ?_⟩
    rcases List.mem_cons.mp hx with rfl | hx
    · show l.foldl min (min a x) ≤ x; omega
    · exact h2 x hx
theorem fmin_mem : ∀ (l : List Int) (a : Int), l.foldl min a = a ∨ l.foldl min a ∈ l
  | [], a => .inl rfl
  | y :: l, a => by
    show l.foldl min (min a y) = a ∨ l.foldl min (min a y) ∈ y :: l
    rcases fmin_mem l (min a y) with e | e
    · rw [e]
      rcases Int.min_def a y ▸ (by split <;> simp : (if a ≤ y then a else y) = a ∨ (if a ≤ y then a else y) = y) with q | q
      · rw [Int.min_def]; split
        · exact .inl rfl
        · exact .inr List.mem_cons_self
      · rw [Int.min_def]; split
        · exact .inl rfl
        · exact .inr List.mem_cons_self
    · exact .inr (List.mem_cons_of_mem _ e)
theorem minL_le {l : List Int} {x : Int} (h : x ∈ l) : minL l ≤ x := by
  cases l with
  | nil => cases h
  | cons a l =>
    rcases List.mem_cons.mp h with rfl | h
    · exact (fmin_le l x).1
    · exact (fmin_le l a).2 x h
theorem minL_mem {l : List Int} (h : 0 < l.length) : minL l ∈ l := by
  cases l with
  | nil => cases h
  | cons a l =>
    rcases fmin_mem l a with e | e
    · show l.foldl min a ∈ a :: l; rw [e]; exact List.mem_cons_self
    · exact List.mem_cons_of_mem _ e
theorem fmax_ge : ∀ (l : List Int) (a : Int), a ≤ l.foldl max a ∧ ∀ x ∈ l, x ≤ l.foldl max a
  | [], a => ⟨Int.le_refl a, by simp⟩
  | y :: l, a => by
    obtain ⟨h1, h2⟩ := fmax_ge l (max a y)
    refine ⟨by show a ≤ l.foldl max (max a y); omega, fun x hx => ?_⟩
    rcases List.mem_cons.mp hx with rfl | hx
    · show x ≤ l.foldl max (max a x); omega
    · exact h2 x hx
theorem fmax_mem : ∀ (l : List Int) (a : Int), l.foldl max a = a ∨ l.foldl max a ∈ l
  | [], a => .inl rfl
  | y :: l, a => by
    show l.foldl max (max a y) = a ∨ l.foldl max (max a y) ∈ y :: l
    rcases fmax_mem l (max a y) with e | e
    · rw [e, Int.max_def]
      split
      · exact .inr List.mem_cons_self
      · exact .inl rfl
    · exact .inr (List.mem_cons_of_mem _ e)
theorem maxL_ge {l : List Int} {x : Int} (h : x ∈ l) : x ≤ maxL l := by
  cases l with
  | nil => cases h
  | cons a l =>
    rcases List.mem_cons.mp h with rfl | h
    · exact (fmax_ge l x).1
    · exact (fmax_ge l a).2 x h
theorem maxL_mem {l : List Int} (h : 0 < l.length) : maxL l ∈ l := by
  cases l with
  | nil => cases h
  | cons a l =>
    rcases fmax_mem l a with e | e
    · show l.foldl max a ∈ a :: l; rw [e]; exact List.mem_cons_self
    · exact List.mem_cons_of_mem _ e
theorem room_lt {k : Int × Int} (hk : Kind k) : 0 < roomI k ∧ roomI k < 2 ^ 200 := by
  have := room_bd hk
  have := hk.s0; have := hk.s1; have := hk.a1
  have e : (2 : Int) ^ 200 = 1606938044258990275541962092341162602522202993782792835301376 := by decide
  unfold T30 at *
  rw [e]
  omega
/-! ### the places with fields -/
def placesI (ms : List Int) : List Int := ms.zipIdx.filterMap fun p => if 0 < p.1 then some (p.2 : Int) else none
theorem enumL_map {α : Type} (f : α → D) (as : List α) : enumL (as.map f) = as.zipIdx.map fun p => D.tup [.int (p.2 : Nat), f p.1] := by
  unfold enumL
  rw [List.zipIdx_map, List.map_map]
  rfl
theorem filterMap_int {α : Type} (f : α → Option Int) (as : List α) : as.filterMap (fun a => (f a).map D.int) = (as.filterMap f).map .int := by
  rw [List.map_filterMap]
def PlacesOk (f : List D → Hq → R (D × Hq)) : Prop := ∀ (ms : List Int) (h : Hq), ms.length ≤ 1000 → Wp (f [rowD ms] h) fun p => p = (.lst ((placesI ms).map .int), h)
theorem places_len (ms : List Int) : (placesI ms).length ≤ ms.length := by
  have := List.length_filterMap_le (fun p : Int × Nat => if 0 < p.1 then some (p.2 : Int) else none) ms.zipIdx
  rw [List.length_zipIdx] at this
  exact this
theorem places_ok {φ : Fn} : PlacesOk (runDef φ R_places) := by
  intro ms h hl
  refine pure_def rfl rfl ?_ ?_ ?_
  · simp [D.pures, row_pure]
  · unfold D.pure; exact pures_map _ fun _ _ => rfl
  refine FF.x_cons ?_
  refine FF.x_ret ?_
  refine FF.x_comp ?_
  refine FF.x_enum ?_
  refine FF.x_var (by rfl) ?_
  refine FF.OkO.of rfl ?_
  try dsimp only [List.set_cons_zero, List.set_cons_succ]
  rw [enumL_map]
  refine wp_fmap (fun p : Int × Nat => D.tup [.int (p.2 : Nat), .int p.1]) (fun p : Int × Nat => (if 0 < p.1 then some (p.2 : Int) else none).map D.int) ms.zipIdx (by rfl) (by rw [List.length_zipIdx]; omega) (fun p hp => ?_) ?_
  · refine FF.x_stepC ?_
    refine FF.OkO.of rfl ?_
    refine FF.x_if1 ?_
    refine FF.x_cmp ?_
    refine FF.x_var (by rfl) ?_
    refine FF.x_const ?_
    refine FF.OkO.of rfl ?_
    refine FF.OkO.of rfl ?_
    try dsimp only [List.set_cons_zero, List.set_cons_succ]
    refine ⟨fun c => ?_, fun c => ?_⟩
    · refine FF.x_var (by rfl) ?_
      try dsimp only [List.set_cons_zero, List.set_cons_succ]
      rw [if_pos (of_decide_eq_true c)]
      rfl
    · rw [if_neg (of_decide_eq_false c)]
      rfl
  rw [filterMap_int]
  have := places_len ms
  refine o_lst (by rw [List.length_map]; unfold placesI at this; omega) ?_
  refine FF.nxt_rt ?_
  try dsimp only [List.set_cons_zero, List.set_cons_succ]
  refine FF.end_rt ?_
  try dsimp only [List.set_cons_zero, List.set_cons_succ]
  exact thaw1_pure (by unfold D.pure; exact pures_map _ fun _ _ => rfl)
theorem kindAt_nat {b : List (Int × Int)} {j : Nat} {k : Int × Int} (e : b[j]? = some k) : kindAt b (j : Int) = k := by
  unfold kindAt
  rw [Int.toNat_natCast, List.getD_eq_getElem?_getD, e]; rfl
/-- the kinds with fields, as they come -/
def withF (b : List (Int × Int)) (ms : List Int) : List (Int × Int) := (b.zip ms).filterMap fun p => if 0 < p.2 then some p.1 else none
theorem places_kinds (b : List (Int × Int)) : ∀ (b2 : List (Int × Int)) (ms : List Int) (j : Nat), b.drop j = b2 → ms.length ≤ b2.length →
    ((ms.zipIdx j).filterMap fun p => if 0 < p.1 then some (p.2 : Int) else none).map (kindAt b) = (b2.zip ms).filterMap fun p => if 0 < p.2 then some p.1 else none
  | b2, [], j, _, _ => by simp
  | [], m :: ms, j, _, l => by simp at l
  | k :: b2, m :: ms, j, e, l => by
    have ek : b[j]? = some k := by
      have := congrArg (fun l => l[0]?) e
      simpa using this
    have ih := places_kinds b b2 ms (j + 1) (by rw [← List.tail_drop, e]; rfl) (by simpa using l)
    rw [List.zipIdx_cons, List.zip_cons_cons, List.filterMap_cons, List.filterMap_cons]
    by_cases c : 0 < m
    · simp only [c, if_true, List.map_cons, ih, kindAt_nat ek]
    · simp only [c, if_false, ih]
theorem places_with (b : List (Int × Int)) (ms : List Int) (l : ms.length ≤ b.length) : (placesI ms).map (kindAt b) = withF b ms := places_kinds b b ms 0 rfl l
theorem places_in {ms : List Int} {z : Int} (h : z ∈ placesI ms) : 0 ≤ z ∧ z < ms.length := by
  unfold placesI at h
  obtain ⟨p, hp, e⟩ := List.mem_filterMap.mp h
  split at e
  · cases e
    have := List.mem_zipIdx hp
    omega
  · cases e
theorem withF_kind {b : List (Int × Int)} {ms : List Int} {k : Int × Int} (h : k ∈ withF b ms) : k ∈ b := by
  unfold withF at h
  obtain ⟨p, hp, e⟩ := List.mem_filterMap.mp h
  split at e
  · cases e; exact (List.of_mem_zip hp).1
  · cases e
theorem withF_some {b : List (Int × Int)} {ms : List Int} (l : ms.length = b.length) (h : ∃ m ∈ ms, 0 < m) : 0 < (withF b ms).length := by
  obtain ⟨m, hm, h0⟩ := h
  obtain ⟨j, hj, rfl⟩ := List.mem_iff_getElem.mp hm
  have : (b[j]'(by omega)) ∈ withF b ms := by
    unfold withF
    refine List.mem_filterMap.mpr ⟨(b[j]'(by omega), ms[j]), ?_, by rw [if_pos h0]⟩
    rw [List.mem_iff_getElem]
    exact ⟨j, by rw [List.length_zip]; omega, by rw [List.getElem_zip]⟩
  exact List.length_pos_of_mem this
structure RecOk (b : List (Int × Int)) (ms : List Int) : Prop where
  len : ms.length = b.length
  some' : ∃ m ∈ ms, 0 < m
  nat : ∀ m ∈ ms, 0 ≤ m ∧ m ≤ T30
/-! ### the laws' own -/
theorem ints_pure (ns : List Int) : (D.lst (ns.map .int)).pure = true := by unfold D.pure; exact pures_map ns fun _ _ => rfl
theorem zip_map2 {α β : Type} (f : α → D) (g : β → D) (as : List α) (bs : List β) : (((as.map f).zip (bs.map g)).map fun p => D.tup [p.1, p.2]) = (as.zip bs).map fun p => D.tup [f p.1, g p.2] := by
  rw [List.zip_map, List.map_map]; rfl
/-! ### lists in cells, behind a reel -/
mutual
theorem D.beq_self : ∀ d : D, D.beq d d = true
  | .non => by unfold D.beq; rfl
  | .bl _ => by unfold D.beq; simp
  | .int _ => by unfold D.beq; simp
  | .str _ => by unfold D.beq; simp
  | .tup ds => by unfold D.beq; exact D.beqs_self ds
  | .lst ds => by unfold D.beq; exact D.beqs_self ds
  | .scr _ => by unfold D.beq; simp
  | .ktp _ => by unfold D.beq; simp
  | .ref _ => by unfold D.beq; simp
  | .dct ds => by unfold D.beq; exact D.beqs_self ds
  | .exn _ ds => by unfold D.beq; simp [D.beqs_self ds]
theorem D.beqs_self : ∀ ds : List D, D.beqs ds ds = true
  | [] => by unfold D.beqs; rfl
  | d :: ds => by unfold D.beqs; rw [D.beq_self d, D.beqs_self ds]; rfl
end
/-! ### a record -/
theorem e30 : (10 : Int) ^ Int.toNat 30 = T30 := by decide
abbrev RecIn (b : List (Int × Int)) : D → Prop := fun x => ∃ ms : List Int, x = rowD ms ∧ RecOk b ms
end FF

/-! FFMono: more is never less. -/
namespace FF
open PySem PySem.Spec L2
theorem upI_dvd {n s : Int} (h : 1 ≤ s) : s ∣ upI n s := by
  unfold upI
  have e := Int.emod_add_mul_ediv (0 - n) s
  refine ⟨-((0 - n) / s), ?_⟩
  rw [Int.mul_neg]
  omega
/-- the least multiple -/
theorem upI_least {n s m : Int} (h : 1 ≤ s) (hd : s ∣ m) (hm : n ≤ m) : upI n s ≤ m := by
  obtain ⟨c, rfl⟩ := hd
  obtain ⟨d, hd⟩ := upI_dvd (n := n) h
  have b := Int.emod_lt_of_pos (0 - n) (show 0 < s by omega)
  have u : upI n s < n + s := by unfold upI; omega
  rw [hd] at u ⊢
  have : d < c + 1 := by
    refine Int.lt_of_mul_lt_mul_left (a := s) ?_ (by omega)
    rw [Int.mul_add, Int.mul_one]; omega
  exact Int.mul_le_mul_of_nonneg_left (by omega) (by omega)
theorem upI_mono {n m s t : Int} (h : 1 ≤ s) (h1 : 1 ≤ t) (hd : s ∣ t) (hm : n ≤ m) : upI n s ≤ upI m t := by
  refine upI_least h (Int.dvd_trans hd (upI_dvd h1)) (Int.le_trans hm ?_)
  unfold upI
  have := Int.emod_nonneg (0 - m) (show t ≠ 0 by omega)
  omega
theorem pow2_dvd {a b : Int} (ha : Pow2 a) (hb : Pow2 b) (h : a ≤ b) : a ∣ b := by
  unfold Pow2 at ha hb
  rcases ha with rfl | rfl | rfl | rfl | rfl | rfl | rfl <;> rcases hb with rfl | rfl | rfl | rfl | rfl | rfl | rfl <;> first | decide | omega
theorem foldl_max_in : ∀ (l : List Int) (a : Int), l.foldl max a = a ∨ l.foldl max a ∈ l
  | [], a => .inl rfl
  | x :: l, a => by
    show l.foldl max (max a x) = a ∨ l.foldl max (max a x) ∈ x :: l
    rcases foldl_max_in l (max a x) with h | h
    · rw [h]
      rcases Int.le_total a x with q | q
      · rw [Int.max_eq_right q]; exact .inr List.mem_cons_self
      · rw [Int.max_eq_left q]; exact .inl rfl
    · exact .inr (List.mem_cons_of_mem _ h)
theorem foldl_max_ge : ∀ {l : List Int} {x : Int} (a : Int), x ∈ l → x ≤ l.foldl max a
  | y :: l, x, a, h => by
    rcases List.mem_cons.mp h with rfl | h
    · exact Int.le_trans (Int.le_max_right a x) (foldl_max_le l _)
    · show x ≤ l.foldl max (max a y)
      exact foldl_max_ge (l := l) (max a y) h
/-- sizes no less, alignments multiples -/
structure LeK (k k' : Int × Int) : Prop where
  s : k.1 ≤ k'.1
  a : k.2 ∣ k'.2
theorem lastE_append {b : List (Int × Int)} : ∀ {r1 r2 : List Int} {n : Int}, lastE b (r1 ++ r2) n = lastE b r2 (lastE b r1 n)
  | [], _, _ => rfl
  | z :: r, r2, n => by rw [List.cons_append, lastE, lastE_append]; rfl
end FF

/-! FFSum: wholes of rooms, numbers of fields, things mixed. -/
namespace FF
open PySem PySem.Spec L2
def R_rwhole : Def := ⟨.pure, 2, ["book", "record", "total", "many", "own"], (.cons (.set (.name 2) (.bi .sum false (.cons (.comp false (.tup (.cons (.name 3) (.cons (.name 4) .nil))) (.zip (.var 1) (.call 38 (.cons (.var 0) .nil))) .nil (.bin .Mult false (.var 3) (.var 4)) [3, 4]) .nil))) (.cons (.ret (.call 9 (.cons (.var 2) (.cons (.call 11 (.cons (.var 0) (.cons (.call 42 (.cons (.var 1) .nil)) .nil))) .nil)))) .nil))⟩
theorem wide_of {i : Int} (h : i.natAbs < 1606938044258990275541962092341162602522202993782792835301376) : wide i = true := by
  unfold wide
  refine decide_eq_true ?_
  by_cases z : i.natAbs = 0
  · rw [z]; decide
  · have := (Nat.log2_lt z).mpr (show i.natAbs < 2 ^ 200 from h)
    omega
theorem mulOk_w {i j : Int} (hi : i.natAbs < 1606938044258990275541962092341162602522202993782792835301376) (hj : j.natAbs < 1606938044258990275541962092341162602522202993782792835301376) : mulOk i j = true := by
  unfold mulOk
  rw [wide_of hi, wide_of hj]
  simp
def sumR (b : List (Int × Int)) (ms : List Int) : Int := ((b.zip ms).map fun p => roomI p.1 * p.2).sum
def recStep (b : List (Int × Int)) (ms : List Int) : Int := maxL ((withF b ms).map fun k => k.2)
def dueI (b : List (Int × Int)) (ms : List Int) : Int := upI (sumR b ms) (recStep b ms)
theorem recStep_at {b : List (Int × Int)} {ms : List Int} (hm : RecOk b ms) : ∃ k ∈ withF b ms, k.2 = recStep b ms := by
  have := maxL_mem (l := (withF b ms).map fun k => k.2) (by rw [List.length_map]; exact withF_some hm.len hm.some')
  obtain ⟨k, hk, e⟩ := List.mem_map.mp this
  exact ⟨k, hk, e⟩
theorem recStep_ge {b : List (Int × Int)} {ms : List Int} {k : Int × Int} (h : k ∈ withF b ms) : k.2 ≤ recStep b ms := maxL_ge (List.mem_map.mpr ⟨k, h, rfl⟩)
theorem recStep_bd {b : List (Int × Int)} {ms : List Int} (hb : BookOk b) (hm : RecOk b ms) : 1 ≤ recStep b ms ∧ recStep b ms ≤ 64 ∧ Pow2 (recStep b ms) := by
  obtain ⟨k, hk, e⟩ := recStep_at hm
  have q := hb.kinds k (withF_kind hk)
  rw [← e]
  exact ⟨q.a0, q.a1, q.ap⟩
theorem room_small {k : Int × Int} (hk : Kind k) : (roomI k).natAbs < 1606938044258990275541962092341162602522202993782792835301376 := by
  have := room_bd hk
  have := hk.s0; have := hk.s1; have := hk.a1
  unfold T30 at *
  omega
theorem num_small {m : Int} (h : 0 ≤ m ∧ m ≤ T30) : m.natAbs < 1606938044258990275541962092341162602522202993782792835301376 := by
  unfold T30 at h
  omega
theorem sum_zipR : ∀ (b : List (Int × Int)) (ms : List Int), ((ms.zip (b.map roomI)).map fun p => p.1 * p.2).sum = sumR b ms
  | [], ms => by simp [sumR]
  | k :: b, [] => by simp [sumR]
  | k :: b, m :: ms => by
    have := sum_zipR b ms
    unfold sumR at this ⊢
    simp only [List.map_cons, List.zip_cons_cons, List.sum_cons, this, Int.mul_comm m]
def DueOk (f : List D → Hq → R (D × Hq)) : Prop := ∀ (b : List (Int × Int)) (ms : List Int) (h : Hq), BookOk b → RecOk b ms → Wp (f [bookD b, rowD ms] h) fun p => p = (.int (dueI b ms), h)
def GreatLOk (f : List D → Hq → R (D × Hq)) : Prop := ∀ (b : List (Int × Int)) (ns : List Int) (h : Hq), BookOk b → 0 < ns.length → ns.length ≤ 1000 → (∀ z ∈ ns, 0 ≤ z ∧ z < b.length) → Wp (f [bookD b, .lst (ns.map .int)] h) fun p => p = (.int (maxL (ns.map fun z => (kindAt b z).2)), h)
theorem greatL_ok {φ : Fn} : GreatLOk (runDef φ R_greatest) := by
  intro b ns h hb n0 n1 hn
  refine pure_def rfl rfl ?_ rfl ?_
  · simp [D.pures, book_pure, ints_pure]
  refine FF.x_cons ?_
  refine FF.x_ret ?_
  refine FF.x_bi ?_
  refine FF.x_acons ?_
  refine FF.x_comp ?_
  refine FF.x_iex ?_
  refine FF.x_var (by rfl) ?_
  refine FF.OkO.of rfl ?_
  try dsimp only [List.set_cons_zero, List.set_cons_succ]
  refine wp_map D.int (fun z => .int (kindAt b z).2) ns (by rfl) (by omega) (fun z hz => ?_) ?_
  · obtain ⟨hk, ek⟩ := kindAt_ok hb (hn z hz)
    refine FF.x_stepC ?_
    refine FF.OkO.of rfl ?_
    refine FF.x_if0 ?_
    refine FF.Cd.tt ?_
    refine FF.x_ix ?_
    refine FF.x_ix ?_
    refine FF.x_var (by rfl) ?_
    refine FF.x_var (by rfl) ?_
    try dsimp only [List.set_cons_zero, List.set_cons_succ]
    refine o_ixT (ds := b.map kindD) ek ?_
    refine FF.x_const ?_
    refine FF.OkO.of rfl ?_
    try dsimp only [List.set_cons_zero, List.set_cons_succ]
  refine o_lst (by rw [List.length_map]; omega) ?_
  rw [map_int (fun z => (kindAt b z).2) ns]
  refine FF.x_anil ?_
  try dsimp only [List.set_cons_zero, List.set_cons_succ]
  refine o_maxL (by rw [List.length_map]; exact n0) ?_
  refine FF.nxt_rt ?_
  try dsimp only [List.set_cons_zero, List.set_cons_succ]
  refine FF.end_rt ?_
  try dsimp only [List.set_cons_zero, List.set_cons_succ]
  exact thaw1_pure rfl
theorem rwhole_ok {φ : Fn} (h9 : UpOk (φ 9)) (h11 : GreatLOk (φ 11)) (h38 : RoomsOk (φ 38) roomI) (h42 : PlacesOk (φ 42)) : DueOk (runDef φ R_rwhole) := by
  intro b ms h hb hm
  have bl := hb.len
  have ml := hm.len
  have pl := places_len ms
  refine pure_def rfl rfl ?_ rfl ?_
  · simp [D.pures, book_pure, row_pure]
  refine FF.x_cons ?_
  refine FF.x_set ?_
  refine FF.x_bi ?_
  refine FF.x_acons ?_
  refine FF.x_comp ?_
  refine FF.x_zip ?_
  refine FF.x_var (by rfl) ?_
  refine FF.x_call ?_
  refine FF.x_acons ?_
  refine FF.x_var (by rfl) ?_
  refine FF.x_anil ?_
  try dsimp only [List.set_cons_zero, List.set_cons_succ]
  refine (h38 b _ hb).mono ?_
  rintro _ rfl
  refine FF.OkO.of rfl ?_
  try dsimp only [List.set_cons_zero, List.set_cons_succ]
  rw [zip_map2 D.int D.int ms (b.map roomI)]
  refine wp_map (fun p : Int × Int => D.tup [.int p.1, .int p.2]) (fun p : Int × Int => D.int (p.1 * p.2)) (ms.zip (b.map roomI)) (by rfl) (by rw [List.length_zip, List.length_map]; omega) (fun p hp => ?_) ?_
  · obtain ⟨h1, h2⟩ := List.of_mem_zip (a := p.1) (b := p.2) hp
    obtain ⟨k, hk, e⟩ := List.mem_map.mp h2
    refine FF.x_stepC ?_
    refine FF.OkO.of rfl ?_
    refine FF.x_if0 ?_
    refine FF.Cd.tt ?_
    refine FF.x_bin ?_
    refine FF.x_var (by rfl) ?_
    refine FF.x_var (by rfl) ?_
    try dsimp only [List.set_cons_zero, List.set_cons_succ]
    refine o_mul (mulOk_w (num_small (hm.nat _ h1)) (by rw [← e]; exact room_small (hb.kinds k hk))) ?_
    try dsimp only [List.set_cons_zero, List.set_cons_succ]
  rw [map_int (fun p : Int × Int => p.1 * p.2) (ms.zip (b.map roomI))]
  refine o_lst (by rw [List.length_map, List.length_map, List.length_zip, List.length_map]; omega) ?_
  refine FF.x_anil ?_
  try dsimp only [List.set_cons_zero, List.set_cons_succ]
  refine o_sum ?_
  refine FF.OkO.of rfl ?_
  refine FF.nxt_nx ?_
  try dsimp only [List.set_cons_zero, List.set_cons_succ]
  refine FF.x_cons ?_
  refine FF.x_ret ?_
  refine FF.x_call ?_
  refine FF.x_acons ?_
  refine FF.x_var (by rfl) ?_
  refine FF.x_acons ?_
  refine FF.x_call ?_
  refine FF.x_acons ?_
  refine FF.x_var (by rfl) ?_
  refine FF.x_acons ?_
  refine FF.x_call ?_
  refine FF.x_acons ?_
  refine FF.x_var (by rfl) ?_
  refine FF.x_anil ?_
  try dsimp only [List.set_cons_zero, List.set_cons_succ]
  refine (h42 ms _ (by omega)).mono ?_
  rintro _ rfl
  refine FF.x_anil ?_
  try dsimp only [List.set_cons_zero, List.set_cons_succ]
  have pw := places_with b ms (by omega)
  have p0 : 0 < (placesI ms).length := by
    have := withF_some ml hm.some'
    rw [← pw, List.length_map] at this
    exact this
  refine (h11 b (placesI ms) _ hb p0 (by omega) fun z hz => by have := places_in hz; omega).mono ?_
  rintro _ rfl
  refine FF.x_anil ?_
  try dsimp only [List.set_cons_zero, List.set_cons_succ]
  have e : (placesI ms).map (fun z => (kindAt b z).2) = (withF b ms).map fun k => k.2 := by rw [← pw, List.map_map]; rfl
  have st := recStep_bd hb hm
  rw [sum_zipR, e]
  refine (h9 (sumR b ms) (recStep b ms) _ st.1 st.2.1).mono ?_
  rintro _ rfl
  refine FF.nxt_rt ?_
  try dsimp only [List.set_cons_zero, List.set_cons_succ]
  refine FF.end_rt ?_
  try dsimp only [List.set_cons_zero, List.set_cons_succ]
  exact thaw1_pure rfl
/-! ### numbers of fields -/
def cnt (row : List Int) (j : Nat) : Int := ((row.filterMap fun z => if z = (j : Int) then some (1 : Int) else none).length : Nat)
def numI (b : List (Int × Int)) (row : List Int) : List Int := (List.range b.length).map (cnt row)
theorem cnt_nil (j : Nat) : cnt [] j = 0 := rfl
theorem cnt_cons (z : Int) (r : List Int) (j : Nat) : cnt (z :: r) j = (if z = (j : Int) then 1 else 0) + cnt r j := by
  unfold cnt
  rw [List.filterMap_cons]
  by_cases c : z = (j : Int)
  · simp only [c, if_true, List.length_cons]; omega
  · simp only [c, if_false]; omega
theorem cnt_bd (row : List Int) (j : Nat) : 0 ≤ cnt row j ∧ cnt row j ≤ row.length := by
  unfold cnt
  have := List.length_filterMap_le (fun z => if z = (j : Int) then some (1 : Int) else none) row
  omega
theorem cnt_pos {row : List Int} {j : Nat} (h : (j : Int) ∈ row) : 0 < cnt row j := by
  induction row with
  | nil => cases h
  | cons z r ih =>
    rw [cnt_cons]
    have := (cnt_bd r j).1
    rcases List.mem_cons.mp h with e | h
    · rw [if_pos e.symm]; omega
    · have := ih h; split <;> omega
theorem cnt_mem {row : List Int} {j : Nat} (h : 0 < cnt row j) : (j : Int) ∈ row := by
  induction row with
  | nil => rw [cnt_nil] at h; omega
  | cons z r ih =>
    rw [cnt_cons] at h
    by_cases c : z = (j : Int)
    · rw [c]; exact List.mem_cons_self
    · rw [if_neg c, Int.zero_add] at h; exact List.mem_cons_of_mem _ (ih h)
theorem sum_pick (G : Nat → Int) (z : Int) : ∀ n : Nat, 0 ≤ z → ((List.range n).map fun j => G j * (if z = (j : Int) then 1 else 0)).sum = if z < n then G z.toNat else 0
  | 0, h => by rw [if_neg (by omega)]; rfl
  | n + 1, h => by
    rw [List.range_succ, List.map_append, List.sum_append, sum_pick G z n h]
    simp only [List.map_cons, List.map_nil, List.sum_cons, List.sum_nil]
    by_cases c : z = (n : Int)
    · subst c
      rw [if_neg (by omega), if_pos rfl, if_pos (by omega), Int.toNat_natCast]; omega
    · rw [if_neg c]
      by_cases d : z < n
      · rw [if_pos d, if_pos (by omega)]; omega
      · rw [if_neg d, if_neg (by omega)]; omega
theorem sum_add (f g : Nat → Int) : ∀ l : List Nat, (l.map fun j => f j + g j).sum = (l.map f).sum + (l.map g).sum
  | [] => rfl
  | a :: l => by simp only [List.map_cons, List.sum_cons, sum_add f g l]; omega
theorem sum_cnt (G : Nat → Int) (n : Nat) : ∀ row : List Int, (∀ z ∈ row, 0 ≤ z ∧ z < n) → ((List.range n).map fun j => G j * cnt row j).sum = (row.map fun z => G z.toNat).sum
  | [], _ => by
    have : ∀ l : List Nat, (l.map fun j => G j * cnt [] j).sum = 0 := by
      intro l
      induction l with
      | nil => rfl
      | cons a l ih => simp only [List.map_cons, List.sum_cons]; rw [ih, cnt_nil]; omega
    rw [this]; rfl
  | z :: r, h => by
    have ih := sum_cnt G n r fun y hy => h y (List.mem_cons_of_mem _ hy)
    have hz := h z List.mem_cons_self
    have e : (fun j => G j * cnt (z :: r) j) = fun j => G j * (if z = (j : Int) then 1 else 0) + G j * cnt r j := by
      funext j; rw [cnt_cons, Int.mul_add]
    rw [e, sum_add, ih, sum_pick G z n hz.1, if_pos hz.2, List.map_cons, List.sum_cons]
theorem book_range (b : List (Int × Int)) : b = (List.range b.length).map fun j : Nat => kindAt b (j : Int) := by
  refine List.ext_getElem (by simp) fun j h1 h2 => ?_
  rw [List.getElem_map, List.getElem_range, kindAt_nat (List.getElem?_eq_getElem h1)]
theorem zip_num (b : List (Int × Int)) (row : List Int) : b.zip (numI b row) = (List.range b.length).map fun j : Nat => (kindAt b (j : Int), cnt row j) := by
  have := book_range b
  unfold numI
  generalize b.length = n at *
  rw [show b.zip ((List.range n).map (cnt row)) = ((List.range n).map fun j : Nat => kindAt b (j : Int)).zip ((List.range n).map (cnt row)) by rw [← this]]
  rw [List.zip_map']
theorem withF_num {b : List (Int × Int)} {row : List Int} (h : ∀ z ∈ row, 0 ≤ z ∧ z < b.length) {k : Int × Int} : k ∈ withF b (numI b row) ↔ ∃ z ∈ row, kindAt b z = k := by
  unfold withF
  rw [zip_num, List.filterMap_map, List.mem_filterMap]
  constructor
  · rintro ⟨j, hj, e⟩
    dsimp only [Function.comp] at e
    split at e
    · rename_i c; cases e; exact ⟨j, cnt_mem c, rfl⟩
    · cases e
  · rintro ⟨z, hz, e⟩
    have := h z hz
    refine ⟨z.toNat, List.mem_range.mpr (by omega), ?_⟩
    dsimp only [Function.comp]
    rw [show ((z.toNat : Nat) : Int) = z by omega, if_pos (cnt_pos (by rw [show ((z.toNat : Nat) : Int) = z by omega]; exact hz)), e]
theorem num_rec {b : List (Int × Int)} {row : List Int} (r0 : 0 < row.length) (r1 : row.length ≤ 1000) (h : ∀ z ∈ row, 0 ≤ z ∧ z < b.length) : RecOk b (numI b row) := by
  refine ⟨by unfold numI; simp, ?_, fun m hm => ?_⟩
  · obtain ⟨z, hz⟩ := List.exists_mem_of_length_pos r0
    have := h z hz
    refine ⟨cnt row z.toNat, List.mem_map.mpr ⟨z.toNat, List.mem_range.mpr (by omega), rfl⟩, cnt_pos ?_⟩
    rw [show ((z.toNat : Nat) : Int) = z by omega]; exact hz
  · obtain ⟨j, _, rfl⟩ := List.mem_map.mp hm
    have := cnt_bd row j
    unfold T30
    omega
theorem perm_sum (f : Int → Int) {a b : List Int} (h : a.Perm b) : (a.map f).sum = (b.map f).sum := by
  induction h with
  | nil => rfl
  | cons x _ ih => simp only [List.map_cons, List.sum_cons, ih]
  | swap x y l => simp only [List.map_cons, List.sum_cons]; omega
  | trans _ _ i j => exact i.trans j
/-! ### things mixed -/
theorem o_listN {ds : List D} {h : Hq} {P : D × Hq → Prop} (hl : ds.length ≤ 16777216) (p : P (.ref h.length, h ++ [.lst ds])) : OkO (biD .list true [.lst ds] h) P := ⟨_, by simp [biD, un1, listD, FF.lstOf, itemsOf, mkL, lineOk, hl], p⟩
theorem o_lenAt {n : Nat} {ds : List D} {h : Hq} {P : D × Hq → Prop} (hn : h[n]? = some (.lst ds)) (p : P (.int ds.length, h)) : OkO (biD .len false [.ref n] h) P := ⟨_, by simp [biD, un1, lenD, hn], p⟩
theorem o_popAt {n : Nat} {ds : List D} {i : Int} {j : Nat} {d : D} {h : Hq} {P : D × Hq → Prop} (hn : h[n]? = some (.lst ds)) (hl : ds.length ≤ 16777216) (hi : L2.ixN ds.length i = some j) (hd : ds[j]? = some d) (p : P (d, h.set n (.lst (ds.eraseIdx j)))) : OkO (meD .lst .popAt (.ref n) [.int i] h) P :=
  ⟨_, by simp [meD, popAtD, hn, hi, hd, hl, hset], p⟩
abbrev ListPerm (ns : List Int) : D → Prop := fun x => ∃ ms : List Int, x = .lst (ms.map .int) ∧ ms.Perm ns
theorem perm_erase {α : Type} : ∀ (l : List α) (j : Nat) (h : j < l.length), (l[j] :: l.eraseIdx j).Perm l
  | [], j, h => by simp at h
  | a :: l, 0, h => List.Perm.refl _
  | a :: l, j + 1, h => by
    rw [List.eraseIdx_cons_succ, List.getElem_cons_succ]
    exact List.Perm.trans (List.Perm.swap a _ _) (List.Perm.cons a (perm_erase l j (by simpa using h)))
end FF

/-! FFDue: how wholes of rooms go with wholes of rows. -/
namespace FF
open PySem PySem.Spec L2
/-! ### goods of any size -/
theorem good_intK {k : Nat} {i : Int} (h : i.natAbs < 10 ^ k) : (D.int i).Good k := by unfold D.Good; exact h
theorem o_reprK {k : Nat} {d : D} {h : Hq} {P : D × Hq → Prop} (g : d.Good k) (h8 : 8 ≤ k) (hk : k ≤ 500) (hb : d.bulk ≤ 30000) (hd : d.deepn ≤ 64) (p : P (.str d.shown, h)) : OkO (biD .repr false [d] h) P :=
  ⟨_, repr_good h g (by omega) hk (by
    have := Nat.mul_le_mul (show k + 3 ≤ 503 by omega) hb
    omega) hd (by omega), p⟩
/-! ### how great -/
theorem sumR_bd : ∀ {b : List (Int × Int)} {ms : List Int}, (∀ k ∈ b, Kind k) → (∀ m ∈ ms, 0 ≤ m ∧ m ≤ T30) → 0 ≤ sumR b ms ∧ sumR b ms ≤ b.length * 2000000000000000000000000000000000000000000000000000000000000
  | [], ms, _, _ => by simp [sumR]
  | k :: b, [], _, _ => by simp [sumR]; omega
  | k :: b, m :: ms, hb, hm => by
    have ih := sumR_bd (b := b) (ms := ms) (fun x hx => hb x (List.mem_cons_of_mem _ hx)) fun x hx => hm x (List.mem_cons_of_mem _ hx)
    have hk := hb k List.mem_cons_self
    have h := hm m List.mem_cons_self
    have r := room_bd hk
    have := hk.s0; have := hk.s1; have := hk.a1
    unfold T30 at *
    have p0 : 0 * 0 ≤ roomI k * m := Int.mul_le_mul (by omega) h.1 (by decide) (by omega)
    have p1 : roomI k * m ≤ 2000000000000000000000000000000 * 1000000000000000000000000000000 := Int.mul_le_mul (by omega) h.2 h.1 (by decide)
    have e : sumR (k :: b) (m :: ms) = roomI k * m + sumR b ms := by unfold sumR; simp
    rw [e, List.length_cons]
    omega
theorem due_bd {b : List (Int × Int)} {ms : List Int} (hb : BookOk b) (hm : RecOk b ms) : 0 ≤ dueI b ms ∧ (dueI b ms).natAbs < 10 ^ 70 := by
  have st := recStep_bd hb hm
  have s := sumR_bd hb.kinds hm.nat
  have u := up_le (n := sumR b ms) st.1 st.2.1
  have := hb.len
  rw [show (10 : Nat) ^ 70 = 10000000000000000000000000000000000000000000000000000000000000000000000 by decide]
  unfold dueI
  omega
/-! ### records beside one another -/
/-! ### rows by falling alignments -/
def alI (b : List (Int × Int)) (z : Int) : Int := (kindAt b z).2
theorem upI_of {n s : Int} (h : s ∣ n) : upI n s = n := by
  unfold upI
  have : (0 - n) % s = 0 := by
    rw [Int.zero_sub]; exact Int.emod_eq_zero_of_dvd (Int.dvd_neg.mpr h)
  rw [this]; omega
structure Falls (b : List (Int × Int)) (row T F : List Int) : Prop where
  sum : ∀ f : Int → Int, (F.map f).sum = (row.map fun z => if alI b z ∈ T then f z else 0).sum
  mem : ∀ z, z ∈ F ↔ z ∈ row ∧ alI b z ∈ T
  desc : F.Pairwise fun x y => alI b y ≤ alI b x
theorem stepI_at {b : List (Int × Int)} {F : List Int} (hb : BookOk b) (hr : RowOk b F) : ∃ z ∈ F, alI b z = stepI b F := by
  have h := foldl_max_in (F.map fun z => (kindAt b z).2) 1
  rcases h with e | e
  · obtain ⟨z, hz⟩ := List.exists_mem_of_length_pos hr.l0
    have a0 := (kindAt_ok hb (hr.ins z hz)).1.a0
    have le := foldl_max_ge (l := F.map fun z => (kindAt b z).2) (x := (kindAt b z).2) 1 (List.mem_map.mpr ⟨z, hz, rfl⟩)
    refine ⟨z, hz, ?_⟩
    unfold alI stepI
    omega
  · obtain ⟨z, hz, q⟩ := List.mem_map.mp e
    exact ⟨z, hz, q⟩
theorem stepI_ge {b : List (Int × Int)} {F : List Int} {z : Int} (hz : z ∈ F) : alI b z ≤ stepI b F := foldl_max_ge (l := F.map fun z => (kindAt b z).2) 1 (List.mem_map.mpr ⟨z, hz, rfl⟩)
theorem step_num {b : List (Int × Int)} {row F : List Int} (hb : BookOk b) (hr : RowOk b F) (hrow : ∀ z ∈ row, 0 ≤ z ∧ z < b.length) (same : ∀ z, z ∈ F ↔ z ∈ row) (hm : RecOk b (numI b row)) : stepI b F = recStep b (numI b row) := by
  refine Int.le_antisymm ?_ ?_
  · obtain ⟨z, hz, e⟩ := stepI_at hb hr
    rw [← e]
    exact recStep_ge ((withF_num hrow).mpr ⟨z, (same z).mp hz, rfl⟩)
  · obtain ⟨k, hk, e⟩ := recStep_at hm
    obtain ⟨z, hz, q⟩ := (withF_num hrow).mp hk
    rw [← e, ← q]
    exact stepI_ge ((same z).mpr hz)
end FF

/-! FFLayK: rows laid, the rows plain tuples. -/
namespace FF
open PySem PySem.Spec L2
def rowK (ns : List Int) : D := .ktp ns
end FF

/-! FFCount: rows that are plain tuples: drawn, mixed, counted. -/
namespace FF
open PySem PySem.Spec L2
abbrev RowKIn (n : Nat) (many : Nat) : D → Prop := fun x => ∃ ns : List Int, x = rowK ns ∧ ns.length = many ∧ ∀ z ∈ ns, 0 ≤ z ∧ z < n
theorem cnt_countP (j : Nat) : ∀ row : List Int, ((row.countP fun n => n == (j : Int) : Nat) : Int) = cnt row j
  | [] => rfl
  | z :: r => by
    rw [cnt_cons, List.countP_cons, ← cnt_countP j r]
    by_cases c : z = (j : Int)
    · simp [c]; omega
    · simp [c]
end FF

/-! FFUtil: small things about lists, slices, ends. -/
namespace FF
open PySem PySem.Spec L2
theorem up_shiftE {n e s : Int} (h : s ∣ e) : upI (e + n) s = e + upI n s := by
  unfold upI
  obtain ⟨c, rfl⟩ := h
  have : (0 - (s * c + n)) % s = (0 - n) % s := by
    rw [show 0 - (s * c + n) = (0 - n) + s * (-c) by rw [Int.mul_neg]; omega, Int.add_mul_emod_self_left]
  rw [this]; omega
theorem foldl_min_ge {c : Int} : ∀ (l : List Int) (a : Int), c ≤ a → (∀ x ∈ l, c ≤ x) → c ≤ l.foldl min a
  | [], a, h, _ => h
  | x :: l, a, h, hl => foldl_min_ge l _ (Int.le_min.mpr ⟨h, hl x List.mem_cons_self⟩) fun y hy => hl y (List.mem_cons_of_mem _ hy)
theorem cut_from {α : Type} {xs : List α} {j : Nat} (h : j ≤ xs.length) : cut xs (some (j : Int)) none = xs.drop j := by
  unfold cut
  rw [HT.sIx_none, HT.sIx_nat, Nat.min_eq_left h]
  exact List.take_of_length_le (by rw [List.length_drop]; exact Nat.le_refl _)
theorem cnt_perm {a c : List Int} (p : a.Perm c) (j : Nat) : cnt a j = cnt c j := by
  rw [← cnt_countP, ← cnt_countP, p.countP_eq]
theorem numI_perm {a c : List Int} (p : a.Perm c) (b : List (Int × Int)) : numI b a = numI b c := by
  unfold numI
  exact List.map_congr_left fun j _ => cnt_perm p j
theorem cut_to {α : Type} {xs : List α} {j : Nat} (h : j ≤ xs.length) : cut xs none (some (j : Int)) = xs.take j := by
  unfold cut
  rw [HT.sIx_none, HT.sIx_nat, List.drop_zero, Nat.min_eq_left h, Nat.sub_zero]
theorem o_addT {a b : List D} {h : Hq} {P : D × Hq → Prop} (hl : a.length + b.length ≤ 16777216) (p : P (.tup (a ++ b), h)) : OkO (binop .Add false (.tup a) (.tup b) h) P := ⟨_, by simp [binop, addD, lineOk, hl], p⟩
theorem cnt_app (xs ys : List Int) (j : Nat) : cnt (xs ++ ys) j = cnt xs j + cnt ys j := by
  induction xs with
  | nil => rw [List.nil_append, cnt_nil]; omega
  | cons z r ih => rw [List.cons_append, cnt_cons, cnt_cons, ih]; omega
end FF

/-! FFLeastM: the least ends of parts of a record. -/
namespace FF
open PySem PySem.Spec L2
/-! ### parts, those with a field less ahead -/
def lexL : List Int → List Int → Prop
  | a :: as, b :: bs => a < b ∨ (a = b ∧ lexL as bs)
  | _, _ => False
theorem lex_irr : ∀ {p : List Int}, ¬ lexL p p
  | [], h => h
  | a :: p, h => by
    rcases h with h | ⟨_, h⟩
    · omega
    · exact lex_irr h
theorem lex_asym : ∀ {p q : List Int}, lexL p q → ¬ lexL q p
  | a :: p, b :: q, h, h' => by
    rcases h with h | ⟨e, h⟩ <;> rcases h' with h' | ⟨e', h'⟩
    · omega
    · omega
    · omega
    · exact lex_asym h h'
  | [], _, h, _ => h
  | _ :: _, [], h, _ => h
theorem lex_app : ∀ {p q : List Int} (x y : List Int), lexL p q → lexL (p ++ x) (q ++ y)
  | a :: p, b :: q, x, y, h => by
    rcases h with h | ⟨e, h⟩
    · exact .inl h
    · exact .inr ⟨e, lex_app x y h⟩
  | [], _, _, _, h => h.elim
  | _ :: _, [], _, _, h => h.elim
theorem lex_last : ∀ (p : List Int) {i j : Int}, i < j → lexL (p ++ [i]) (p ++ [j])
  | [], _, _, h => .inl h
  | a :: p, _, _, h => .inr ⟨rfl, lex_last p h⟩
def partsStep (found : List (List Int)) (n : Int) : List (List Int) := found.flatMap fun p => (List.range (n + 1).toNat).map fun i : Nat => p ++ [(i : Int)]
def partsL (ms : List Int) : List (List Int) := ms.foldl partsStep [[]]
theorem pairwise_flatMap' {α β : Type} {R : α → α → Prop} {S : β → β → Prop} {f : α → List β} : ∀ {l : List α}, l.Pairwise R → (∀ a ∈ l, (f a).Pairwise S) → (∀ a b, R a b → ∀ x ∈ f a, ∀ y ∈ f b, S x y) → (l.flatMap f).Pairwise S
  | [], _, _, _ => List.Pairwise.nil
  | a :: l, h, h1, h2 => by
    rw [List.flatMap_cons, List.pairwise_append]
    obtain ⟨q1, q2⟩ := List.pairwise_cons.mp h
    refine ⟨h1 a List.mem_cons_self, pairwise_flatMap' q2 (fun b hb => h1 b (List.mem_cons_of_mem _ hb)) h2, fun x hx y hy => ?_⟩
    obtain ⟨b, hb, hy⟩ := List.mem_flatMap.mp hy
    exact h2 a b (q1 b hb) x hx y hy
theorem step_sorted {found : List (List Int)} (h : found.Pairwise lexL) (n : Int) : (partsStep found n).Pairwise lexL := by
  unfold partsStep
  refine pairwise_flatMap' h (fun p _ => ?_) fun p q hpq x hx y hy => ?_
  · rw [List.pairwise_map]
    exact List.pairwise_lt_range.imp fun hij => lex_last p (by omega)
  · obtain ⟨i, _, rfl⟩ := List.mem_map.mp hx
    obtain ⟨j, _, rfl⟩ := List.mem_map.mp hy
    exact lex_app _ _ hpq
theorem fold_sorted : ∀ (ms : List Int) (found : List (List Int)), found.Pairwise lexL → (ms.foldl partsStep found).Pairwise lexL
  | [], _, h => h
  | n :: ms, found, h => fold_sorted ms _ (step_sorted h n)
theorem parts_sorted (ms : List Int) : (partsL ms).Pairwise lexL := fold_sorted ms [[]] (List.pairwise_singleton _ _)
/-- a field less -/
def lessP (p : List Int) (j : Nat) : List Int := p.set j (p.getD j 0 - 1)
theorem less_cut {p : List Int} {j : Nat} (h : j < p.length) : p.take j ++ [p.getD j 0 - 1] ++ p.drop (j + 1) = lessP p j := by
  unfold lessP
  induction p generalizing j with
  | nil => simp at h
  | cons a p ih =>
    cases j with
    | zero => simp
    | succ j =>
      have := ih (j := j) (by simpa using h)
      simp only [List.take_succ_cons, List.cons_append, List.drop_succ_cons, List.set_cons_succ, List.getD_cons_succ]
      rw [this]
theorem less_sum {p : List Int} {j : Nat} (h : j < p.length) : (lessP p j).sum = p.sum - 1 := by
  induction p generalizing j with
  | nil => simp at h
  | cons a p ih =>
    cases j with
    | zero => show (a - 1) + p.sum = a + p.sum - 1; omega
    | succ j =>
      have := ih (j := j) (by simpa using h)
      show a + (lessP p j).sum = a + p.sum - 1
      omega
theorem less_len (p : List Int) (j : Nat) : (lessP p j).length = p.length := by unfold lessP; rw [List.length_set]
/-- what stands ahead of a part in the list of all -/
theorem ahead {ms p q : List Int} {A B : List (List Int)} (e : partsL ms = A ++ p :: B) (hq : q ∈ partsL ms) (hl : lexL q p) : q ∈ A := by
  have s := parts_sorted ms
  rw [e] at s hq
  rw [List.pairwise_append] at s
  rcases List.mem_append.mp hq with h | h
  · exact h
  · rcases List.mem_cons.mp h with h | h
    · rw [h] at hl; exact (lex_irr hl).elim
    · exact (lex_asym hl ((List.pairwise_cons.mp s.2.1).1 q h)).elim
/-! ### the least end of a part -/
def endB (b : List (Int × Int)) (e z : Int) : Int := upI e (kindAt b z).2 + (kindAt b z).1
/-- what is tried: ends and last places -/
def triedF (b : List (Int × Int)) (L : List Int → Int) (p : List Int) : List (List Int) := (placesI p).map fun z => [endB b (L (lessP p z.toNat)) z, z]
def leastF (b : List (Int × Int)) : Nat → List Int → Int
  | 0, _ => 0
  | n + 1, p => match foldMin ((placesI p).map fun z => endB b (leastF b n (lessP p z.toNat)) z) with | some x => x | none => 0
def leastE (b : List (Int × Int)) (p : List Int) : Int := leastF b p.sum.toNat p
theorem places_mem {p : List Int} {j : Nat} : ((j : Int) ∈ placesI p) ↔ j < p.length ∧ 0 < p.getD j 0 := by
  unfold placesI
  constructor
  · intro h
    obtain ⟨⟨x, i⟩, hx, e⟩ := List.mem_filterMap.mp h
    split at e
    · rename_i c
      have ei : (i : Int) = j := Option.some.inj e
      have : i = j := by omega
      subst this
      have := List.mem_zipIdx_iff_getElem?.mp hx
      dsimp only at this c
      have hl := (List.getElem?_eq_some_iff.mp this).1
      exact ⟨hl, by rw [List.getD_eq_getElem?_getD, this]; exact c⟩
    · cases e
  · rintro ⟨h1, h2⟩
    refine List.mem_filterMap.mpr ⟨(p.getD j 0, j), ?_, by simp only [h2, if_true]⟩
    refine List.mem_zipIdx_iff_getElem?.mpr ?_
    dsimp only
    rw [List.getD_eq_getElem?_getD, List.getElem?_eq_getElem h1]; rfl
theorem places_nat {p : List Int} {z : Int} (h : z ∈ placesI p) : ∃ j : Nat, z = (j : Int) ∧ j < p.length ∧ 0 < p.getD j 0 := by
  have := places_in h
  obtain ⟨j, rfl⟩ := Int.eq_ofNat_of_zero_le this.1
  exact ⟨j, rfl, places_mem.mp h⟩
theorem sum_pos {p : List Int} (hn : ∀ x ∈ p, 0 ≤ x) : (0 ≤ p.sum) ∧ (0 < p.sum ↔ placesI p ≠ []) := by
  have h0 : ∀ (q : List Int), (∀ x ∈ q, 0 ≤ x) → 0 ≤ q.sum ∧ (0 < q.sum ↔ ∃ j : Nat, j < q.length ∧ 0 < q.getD j 0) := by
    intro q
    induction q with
    | nil => intro _; exact ⟨Int.le_refl 0, by simp⟩
    | cons a q ih =>
      intro hq
      obtain ⟨i1, i2⟩ := ih fun x hx => hq x (List.mem_cons_of_mem _ hx)
      have a0 := hq a List.mem_cons_self
      rw [List.sum_cons]
      refine ⟨by omega, ?_, ?_⟩
      · intro h
        by_cases c : 0 < a
        · exact ⟨0, by simp, by simpa using c⟩
        · obtain ⟨j, j1, j2⟩ := i2.mp (by omega)
          exact ⟨j + 1, by simpa using j1, by simpa using j2⟩
      · rintro ⟨j, j1, j2⟩
        cases j with
        | zero => have : 0 < a := by simpa using j2
                  omega
        | succ j => have := i2.mpr ⟨j, by simpa using j1, by simpa using j2⟩
                    omega
  obtain ⟨q1, q2⟩ := h0 p hn
  refine ⟨q1, q2.trans ⟨?_, ?_⟩⟩
  · rintro ⟨j, j1, j2⟩ e
    have := places_mem.mpr ⟨j1, j2⟩
    rw [e] at this; cases this
  · intro h
    cases e : placesI p with
    | nil => exact absurd e h
    | cons z r =>
      obtain ⟨j, _, j1, j2⟩ := places_nat (p := p) (z := z) (by rw [e]; exact List.mem_cons_self)
      exact ⟨j, j1, j2⟩
theorem least_eq {b : List (Int × Int)} {p : List Int} (hn : ∀ x ∈ p, 0 ≤ x) : leastE b p = match foldMin ((placesI p).map fun z => endB b (leastE b (lessP p z.toNat)) z) with | some x => x | none => 0 := by
  obtain ⟨s0, s1⟩ := sum_pos hn
  unfold leastE
  cases e : p.sum.toNat with
  | zero =>
    have : placesI p = [] := by
      by_cases c : placesI p = []
      · exact c
      · have := s1.mpr c; omega
    rw [this]; rfl
  | succ n =>
    rw [leastF]
    have : (placesI p).map (fun z => endB b (leastF b n (lessP p z.toNat)) z) = (placesI p).map fun z => endB b (leastF b (lessP p z.toNat).sum.toNat (lessP p z.toNat)) z := by
      refine List.map_congr_left fun z hz => ?_
      obtain ⟨j, rfl, j1, j2⟩ := places_nat hz
      rw [Int.toNat_natCast, less_sum j1, show (p.sum - 1).toNat = n by omega]
    rw [this]
theorem foldl_min_le : ∀ (l : List Int) (a : Int), l.foldl min a ≤ a ∧ ∀ x ∈ l, l.foldl min a ≤ x
  | [], a => ⟨Int.le_refl a, fun x hx => by cases hx⟩
  | y :: l, a => by
    obtain ⟨h1, h2⟩ := foldl_min_le l (min a y)
    refine ⟨Int.le_trans h1 (Int.min_le_left a y), fun x hx => ?_⟩
    rcases List.mem_cons.mp hx with rfl | hx
    · exact Int.le_trans h1 (Int.min_le_right a x)
    · exact h2 x hx
theorem least_le {b : List (Int × Int)} {p : List Int} (hn : ∀ x ∈ p, 0 ≤ x) {z : Int} (hz : z ∈ placesI p) : leastE b p ≤ endB b (leastE b (lessP p z.toNat)) z := by
  rw [least_eq hn]
  have hm : endB b (leastE b (lessP p z.toNat)) z ∈ (placesI p).map fun z => endB b (leastE b (lessP p z.toNat)) z := List.mem_map.mpr ⟨z, hz, rfl⟩
  generalize (placesI p).map (fun z => endB b (leastE b (lessP p z.toNat)) z) = l at hm
  cases l with
  | nil => cases hm
  | cons a l =>
    show l.foldl min a ≤ _
    obtain ⟨h1, h2⟩ := foldl_min_le l a
    rcases List.mem_cons.mp hm with h | h
    · rw [h]; exact h1
    · exact h2 _ h
theorem less_nat {p : List Int} (hn : ∀ x ∈ p, 0 ≤ x) {j : Nat} (h0 : 0 < p.getD j 0) : ∀ x ∈ lessP p j, 0 ≤ x := by
  intro x hx
  unfold lessP at hx
  rcases List.mem_or_eq_of_mem_set hx with h | h
  · exact hn x h
  · omega
theorem num_snoc {b : List (Int × Int)} {r : List Int} {j : Nat} : numI b (r ++ [(j : Int)]) = (List.range b.length).map fun i => cnt r i + if (j : Int) = (i : Int) then 1 else 0 := by
  unfold numI
  refine List.map_congr_left fun i _ => ?_
  rw [cnt_app, cnt_cons, cnt_nil]; omega
theorem num_len (b : List (Int × Int)) (r : List Int) : (numI b r).length = b.length := by unfold numI; rw [List.length_map, List.length_range]
theorem num_getD {b : List (Int × Int)} {r : List Int} {j : Nat} (h : j < b.length) : (numI b r).getD j 0 = cnt r j := by
  unfold numI
  rw [List.getD_eq_getElem?_getD, List.getElem?_map, List.getElem?_range h]; rfl
theorem num_less {b : List (Int × Int)} {r : List Int} {j : Nat} (h : j < b.length) : lessP (numI b (r ++ [(j : Int)])) j = numI b r := by
  unfold lessP
  refine List.ext_getElem? fun i => ?_
  rw [List.getElem?_set, num_len]
  by_cases c : j = i
  · subst c
    rw [if_pos rfl, if_pos h, num_getD h, cnt_app, cnt_cons, cnt_nil, if_pos rfl]
    unfold numI
    rw [List.getElem?_map, List.getElem?_range h]
    simp
  · rw [if_neg c]
    unfold numI
    rw [List.getElem?_map, List.getElem?_map]
    by_cases d : i < b.length
    · rw [List.getElem?_range d]
      simp only [Option.map_some]
      rw [cnt_app, cnt_cons, cnt_nil, if_neg (by omega)]; simp
    · rw [List.getElem?_eq_none (by simp; omega)]; simp
/-- no row ends sooner -/
theorem least_row {b : List (Int × Int)} (hb : BookOk b) : ∀ (n : Nat) (row : List Int), row.length = n → (∀ z ∈ row, 0 ≤ z ∧ z < b.length) → leastE b (numI b row) ≤ lastE b row 0
  | 0, row, hn, _ => by
    have : row = [] := List.length_eq_zero_iff.mp hn
    subst this
    have : placesI (numI b []) = [] := by
      cases e : placesI (numI b []) with
      | nil => rfl
      | cons z r =>
        obtain ⟨j, _, j1, j2⟩ := places_nat (p := numI b []) (z := z) (by rw [e]; exact List.mem_cons_self)
        rw [num_len] at j1
        rw [num_getD j1, cnt_nil] at j2
        omega
    rw [least_eq (fun x hx => by
      unfold numI at hx
      obtain ⟨j, _, rfl⟩ := List.mem_map.mp hx
      exact (cnt_bd [] j).1), this]
    exact Int.le_refl 0
  | n + 1, row, hn, hr => by
    obtain ⟨r, z, rfl⟩ : ∃ r z, row = r ++ [z] := by
      have hne : row ≠ [] := fun z => by rw [z] at hn; simp at hn
      exact ⟨_, _, (List.dropLast_concat_getLast hne).symm⟩
    have hz := hr z (by simp)
    obtain ⟨j, rfl⟩ := Int.eq_ofNat_of_zero_le hz.1
    have hj : j < b.length := by omega
    have ih := least_row hb n r (by simpa using hn) fun y hy => hr y (List.mem_append_left _ hy)
    have nn : ∀ x ∈ numI b (r ++ [(j : Int)]), 0 ≤ x := fun x hx => by
      unfold numI at hx
      obtain ⟨i, _, rfl⟩ := List.mem_map.mp hx
      exact (cnt_bd _ i).1
    have hp : (j : Int) ∈ placesI (numI b (r ++ [(j : Int)])) := by
      refine places_mem.mpr ⟨by rw [num_len]; exact hj, ?_⟩
      rw [num_getD hj, cnt_app, cnt_cons, cnt_nil, if_pos rfl]
      have := (cnt_bd r j).1
      omega
    have h1 := least_le (b := b) nn hp
    rw [Int.toNat_natCast, num_less hj] at h1
    refine Int.le_trans h1 ?_
    rw [lastE_app]
    unfold endB
    have kz := (kindAt_ok hb hz).1
    have := upI_mono kz.a0 kz.a0 (Int.dvd_refl _) ih
    omega
/-- the last place of a least end -/
def lastP (b : List (Int × Int)) (p : List Int) : Int := match foldMinT (triedF b (leastE b) p) with | some [_, z] => z | _ => 0
theorem lex2 {a c x y : Int} : HT.lexLt [a, x] [c, y] = (decide (a < c) || (decide (a = c) && decide (x < y))) := by
  by_cases h : a < c
  · have : ¬ a = c := by omega
    simp [HT.lexLt, h, this]
  · by_cases e : a = c
    · subst e
      by_cases d : x < y
      · have : ¬ x = y := by omega
        simp [HT.lexLt, d, this]
      · simp [HT.lexLt, d]
    · simp [HT.lexLt, h, e]
theorem fold_less : ∀ (l : List (List Int)) (a x : Int), (∀ q ∈ l, ∃ c y, q = [c, y]) → ∃ c y, l.foldl lessT [a, x] = [c, y] ∧ ([c, y] = [a, x] ∨ [c, y] ∈ l) ∧ c ≤ a ∧ ∀ q ∈ l, ∀ c' y', q = [c', y'] → c ≤ c'
  | [], a, x, _ => ⟨a, x, rfl, .inl rfl, Int.le_refl a, fun q hq => by cases hq⟩
  | q :: l, a, x, h => by
    obtain ⟨c, y, rfl⟩ := h q List.mem_cons_self
    rw [List.foldl_cons]
    unfold lessT
    rw [lex2]
    have hl := fun q hq => h q (List.mem_cons_of_mem _ hq)
    split
    · rename_i hc
      obtain ⟨c2, y2, e1, e2, e3, e4⟩ := fold_less l c y hl
      have ca : c ≤ a := by
        simp only [Bool.or_eq_true, decide_eq_true_eq, Bool.and_eq_true] at hc
        omega
      refine ⟨c2, y2, e1, ?_, by omega, fun q hq c' y' e => ?_⟩
      · rcases e2 with e2 | e2
        · exact .inr (e2 ▸ List.mem_cons_self)
        · exact .inr (List.mem_cons_of_mem _ e2)
      · rcases List.mem_cons.mp hq with rfl | hq
        · cases e; exact e3
        · exact e4 q hq c' y' e
    · rename_i hc
      obtain ⟨c2, y2, e1, e2, e3, e4⟩ := fold_less l a x hl
      have ca : a ≤ c := by
        simp only [Bool.or_eq_true, decide_eq_true_eq, Bool.and_eq_true, not_or] at hc
        omega
      refine ⟨c2, y2, e1, ?_, e3, fun q hq c' y' e => ?_⟩
      · rcases e2 with e2 | e2
        · exact .inl e2
        · exact .inr (List.mem_cons_of_mem _ e2)
      · rcases List.mem_cons.mp hq with rfl | hq
        · cases e; omega
        · exact e4 q hq c' y' e
theorem tried_min {b : List (Int × Int)} {p : List Int} (hn : ∀ x ∈ p, 0 ≤ x) (h : placesI p ≠ []) : foldMinT (triedF b (leastE b) p) = some [leastE b p, lastP b p] ∧ lastP b p ∈ placesI p ∧ endB b (leastE b (lessP p (lastP b p).toNat)) (lastP b p) = leastE b p := by
  have key : ∃ c z, foldMinT (triedF b (leastE b) p) = some [c, z] ∧ z ∈ placesI p ∧ endB b (leastE b (lessP p z.toNat)) z = c ∧ ∀ y ∈ placesI p, c ≤ endB b (leastE b (lessP p y.toNat)) y := by
    unfold triedF
    cases e : placesI p with
    | nil => exact absurd e h
    | cons z r =>
      rw [List.map_cons]
      obtain ⟨c, y, e1, e2, e3, e4⟩ := fold_less (r.map fun z => [endB b (leastE b (lessP p z.toNat)) z, z]) (endB b (leastE b (lessP p z.toNat)) z) z (fun q hq => by
        obtain ⟨w, _, rfl⟩ := List.mem_map.mp hq
        exact ⟨_, _, rfl⟩)
      refine ⟨c, y, by show some (List.foldl lessT _ _) = _; rw [e1], ?_, ?_, ?_⟩
      · rcases e2 with e2 | e2
        · cases e2; exact List.mem_cons_self
        · obtain ⟨w, hw, e⟩ := List.mem_map.mp e2
          cases e; exact List.mem_cons_of_mem _ hw
      · rcases e2 with e2 | e2
        · cases e2; rfl
        · obtain ⟨w, hw, e⟩ := List.mem_map.mp e2
          cases e; rfl
      · intro y' hy'
        rcases List.mem_cons.mp hy' with rfl | hy'
        · exact e3
        · exact e4 _ (List.mem_map.mpr ⟨y', hy', rfl⟩) _ _ rfl
  obtain ⟨c, z, e1, e2, e3, e4⟩ := key
  have ez : lastP b p = z := by unfold lastP; rw [e1]
  have ec : c = leastE b p := by
    refine Int.le_antisymm ?_ (e3 ▸ least_le hn e2)
    rw [least_eq hn]
    have hall : ∀ x ∈ (placesI p).map fun z => endB b (leastE b (lessP p z.toNat)) z, c ≤ x := by
      intro x hx
      obtain ⟨y, hy, rfl⟩ := List.mem_map.mp hx
      exact e4 y hy
    have hne : (placesI p).map (fun z => endB b (leastE b (lessP p z.toNat)) z) ≠ [] := by simpa using h
    generalize (placesI p).map (fun z => endB b (leastE b (lessP p z.toNat)) z) = l at hall hne
    cases l with
    | nil => exact absurd rfl hne
    | cons a l =>
      show c ≤ l.foldl min a
      exact foldl_min_ge l a (hall a List.mem_cons_self) fun x hx => hall x (List.mem_cons_of_mem _ hx)
  rw [ez, ← ec]
  exact ⟨e1, e2, e3⟩
/-- the row of the last places -/
def rowF (b : List (Int × Int)) : Nat → List Int → List Int
  | 0, _ => []
  | n + 1, p => rowF b n (lessP p (lastP b p).toNat) ++ [lastP b p]
def rowL (b : List (Int × Int)) (p : List Int) : List Int := rowF b p.sum.toNat p
theorem rowF_ok {b : List (Int × Int)} : ∀ (n : Nat) (p : List Int), (∀ x ∈ p, 0 ≤ x) → p.sum = (n : Int) → p.length = b.length → numI b (rowF b n p) = p ∧ lastE b (rowF b n p) 0 = leastE b p ∧ (rowF b n p).length = n ∧ ∀ z ∈ rowF b n p, 0 ≤ z ∧ z < b.length
  | 0, p, hn, hs, hl => by
    obtain ⟨s0, s1⟩ := sum_pos hn
    have pe : placesI p = [] := by
      by_cases c : placesI p = []
      · exact c
      · have := s1.mpr c; omega
    refine ⟨?_, ?_, rfl, fun z hz => by cases hz⟩
    · refine List.ext_getElem (by rw [num_len, hl]) fun i h1 h2 => ?_
      unfold rowF numI
      rw [List.getElem_map, List.getElem_range, cnt_nil]
      have p0 := hn _ (List.getElem_mem h2)
      by_cases c : 0 < p[i]
      · have : (i : Int) ∈ placesI p := places_mem.mpr ⟨h2, by rw [List.getD_eq_getElem?_getD, List.getElem?_eq_getElem h2]; exact c⟩
        rw [pe] at this; cases this
      · omega
    · rw [least_eq hn, pe]; rfl
  | n + 1, p, hn, hs, hl => by
    obtain ⟨s0, s1⟩ := sum_pos hn
    have pne : placesI p ≠ [] := s1.mp (by omega)
    obtain ⟨_, hm, he⟩ := tried_min (b := b) hn pne
    obtain ⟨j, ej, j1, j2⟩ := places_nat hm
    have ih := rowF_ok n (lessP p j) (less_nat hn j2) (by rw [less_sum j1]; omega) (by rw [less_len, hl])
    rw [rowF, ej, Int.toNat_natCast]
    rw [ej, Int.toNat_natCast] at he
    obtain ⟨i1, i2, i3, i4⟩ := ih
    have jb : j < b.length := by omega
    refine ⟨?_, ?_, by rw [List.length_append, i3]; rfl, fun z hz => ?_⟩
    · rw [num_snoc]
      refine List.ext_getElem (by rw [List.length_map, List.length_range, hl]) fun i h1 h2 => ?_
      rw [List.getElem_map, List.getElem_range]
      have ib : i < b.length := by omega
      have ec : cnt (rowF b n (lessP p j)) i = (lessP p j).getD i 0 := by
        have := num_getD (b := b) (r := rowF b n (lessP p j)) ib
        rw [i1] at this
        exact this.symm
      rw [ec]
      unfold lessP
      rw [List.getD_eq_getElem?_getD, List.getElem?_set]
      by_cases c : j = i
      · subst c
        rw [if_pos rfl, if_pos h2, if_pos rfl, List.getD_eq_getElem?_getD, List.getElem?_eq_getElem h2]
        simp
      · rw [if_neg c, if_neg (by omega), List.getElem?_eq_getElem h2]
        simp
    · rw [lastE_app, i2]; exact he
    · rcases List.mem_append.mp hz with hz | hz
      · exact i4 z hz
      · rw [List.mem_singleton] at hz; subst hz; omega
theorem rowL_ok {b : List (Int × Int)} {ms : List Int} (hm : RecOk b ms) : numI b (rowL b ms) = ms ∧ lastE b (rowL b ms) 0 = leastE b ms ∧ ((rowL b ms).length : Int) = ms.sum ∧ ∀ z ∈ rowL b ms, 0 ≤ z ∧ z < b.length := by
  have hn : ∀ x ∈ ms, 0 ≤ x := fun x hx => (hm.nat x hx).1
  have s0 := (sum_pos hn).1
  obtain ⟨h1, h2, h3, h4⟩ := rowF_ok (b := b) ms.sum.toNat ms hn (by omega) hm.len
  unfold rowL
  exact ⟨h1, h2, by omega, h4⟩
def leastW (b : List (Int × Int)) (ms : List Int) : Int := upI (leastE b ms) (recStep b ms)
theorem whole_num {b : List (Int × Int)} {row : List Int} (hb : BookOk b) (hr : RowOk b row) (hm : RecOk b (numI b row)) : whole b row = upI (lastE b row 0) (recStep b (numI b row)) := by
  unfold whole
  rw [step_num hb hr hr.ins (fun z => Iff.rfl) hm]
theorem rowL_whole {b : List (Int × Int)} {ms : List Int} (hb : BookOk b) (hm : RecOk b ms) (hs : ms.sum ≤ 100) : RowOk b (rowL b ms) ∧ whole b (rowL b ms) = leastW b ms := by
  obtain ⟨h1, h2, h3, h4⟩ := rowL_ok hm
  have hn : ∀ x ∈ ms, 0 ≤ x := fun x hx => (hm.nat x hx).1
  have pos : 0 < ms.sum := (sum_pos hn).2.mpr (by
    obtain ⟨m, hm1, hm2⟩ := hm.some'
    obtain ⟨j, hj, e⟩ := List.getElem_of_mem hm1
    intro z
    have : (j : Int) ∈ placesI ms := places_mem.mpr ⟨hj, by rw [List.getD_eq_getElem?_getD, List.getElem?_eq_getElem hj]; show 0 < ms[j]; omega⟩
    rw [z] at this; cases this)
  have ro : RowOk b (rowL b ms) := ⟨by omega, by omega, h4⟩
  refine ⟨ro, ?_⟩
  rw [whole_num hb ro (by rw [h1]; exact hm), h1, h2]
  rfl
/-- .. and no row of the record has a lesser whole -/
theorem leastW_le {b : List (Int × Int)} {row : List Int} (hb : BookOk b) (hr : RowOk b row) (hm : RecOk b (numI b row)) : leastW b (numI b row) ≤ whole b row := by
  rw [whole_num hb hr hm]
  have q := recStep_bd hb hm
  exact upI_mono q.1 q.1 (Int.dvd_refl _) (least_row hb _ row rfl hr.ins)
end FF

/-! FFFam: what draws, of any family of draws. -/
namespace FF
open PySem PySem.Spec L2
/-! ### trees without texts -/
mutual
def D.plainT : D → Bool
  | .non => true
  | .bl _ => true
  | .int _ => true
  | .tup ds => D.plainTs ds
  | .lst ds => D.plainTs ds
  | .ktp _ => true
  | _ => false
def D.plainTs : List D → Bool
  | [] => true
  | d :: ds => D.plainT d && D.plainTs ds
end
theorem lay_ints : ∀ ns : List Int, PyData.canLayAll0 (ns.map .int) = true ∧ PyData.depthAll (ns.map .int) = 0
  | [] => ⟨rfl, rfl⟩
  | n :: ns => by
    obtain ⟨a, b⟩ := lay_ints ns
    refine ⟨?_, ?_⟩
    · rw [List.map_cons, PyData.canLayAll0, PyData.canLay0, a]; rfl
    · rw [List.map_cons, PyData.depthAll, PyData.depth, b]; rfl
mutual
theorem plain_py : ∀ d : D, d.plainT = true → ∃ p, D.py d = some p ∧ p.canLay0 = true ∧ p.depth = d.deepn
  | .non, _ => ⟨.none, by unfold D.py; rfl, rfl, rfl⟩
  | .bl b, _ => ⟨.bool b, by unfold D.py; rfl, rfl, rfl⟩
  | .int i, _ => ⟨.int i, by unfold D.py; rfl, rfl, rfl⟩
  | .tup ds, q => by
    unfold D.plainT at q
    obtain ⟨ps, e, c, d⟩ := plains_py ds q
    exact ⟨.tuple ps, by unfold D.py; rw [e]; rfl, c, by unfold PyData.depth D.deepn; rw [d]⟩
  | .lst ds, q => by
    unfold D.plainT at q
    obtain ⟨ps, e, c, d⟩ := plains_py ds q
    exact ⟨.list ps, by unfold D.py; rw [e]; rfl, c, by unfold PyData.depth D.deepn; rw [d]⟩
  | .str _, q => by unfold D.plainT at q; cases q
  | .scr _, q => by unfold D.plainT at q; cases q
  | .ktp ns, _ => ⟨.tuple (ns.map .int), by unfold D.py; rfl, (lay_ints ns).1, by unfold PyData.depth D.deepn; rw [(lay_ints ns).2]⟩
  | .ref _, q => by unfold D.plainT at q; cases q
  | .dct _, q => by unfold D.plainT at q; cases q
  | .exn _ _, q => by unfold D.plainT at q; cases q
theorem plains_py : ∀ ds : List D, D.plainTs ds = true → ∃ ps, D.pys ds = some ps ∧ PyData.canLayAll0 ps = true ∧ PyData.depthAll ps = D.deepns ds
  | [], _ => ⟨[], by unfold D.pys; rfl, rfl, rfl⟩
  | d :: ds, q => by
    unfold D.plainTs at q
    rw [Bool.and_eq_true] at q
    obtain ⟨p, e1, c1, d1⟩ := plain_py d q.1
    obtain ⟨ps, e2, c2, d2⟩ := plains_py ds q.2
    refine ⟨p :: ps, by unfold D.pys; rw [e1, e2], ?_, ?_⟩
    · unfold PyData.canLayAll0; rw [c1, c2]; rfl
    · unfold PyData.depthAll D.deepns; rw [d1, d2]
end
mutual
theorem plain_melt {g : List D → Option (List D)} {h : Hq} : ∀ d : D, d.plainT = true → D.melt g h d = some d
  | .non, _ => by unfold D.melt; rfl
  | .bl _, _ => by unfold D.melt; rfl
  | .int _, _ => by unfold D.melt; rfl
  | .tup ds, q => by unfold D.plainT at q; unfold D.melt; rw [plains_melt ds q]; rfl
  | .lst ds, q => by unfold D.plainT at q; unfold D.melt; rw [plains_melt ds q]; rfl
  | .str _, q => by unfold D.plainT at q; cases q
  | .scr _, q => by unfold D.plainT at q; cases q
  | .ktp _, _ => by unfold D.melt; rfl
  | .ref _, q => by unfold D.plainT at q; cases q
  | .dct _, q => by unfold D.plainT at q; cases q
  | .exn _ _, q => by unfold D.plainT at q; cases q
theorem plains_melt {g : List D → Option (List D)} {h : Hq} : ∀ ds : List D, D.plainTs ds = true → D.melts g h ds = some ds
  | [], _ => by unfold D.melts; rfl
  | d :: ds, q => by
    unfold D.plainTs at q
    rw [Bool.and_eq_true] at q
    unfold D.melts
    rw [plain_melt d q.1, plains_melt ds q.2]
end
theorem plains_map {α : Type} {f : α → D} : ∀ {xs : List α}, (∀ x ∈ xs, (f x).plainT = true) → D.plainTs (xs.map f) = true
  | [], _ => by rw [List.map_nil]; unfold D.plainTs; rfl
  | x :: xs, h => by
    rw [List.map_cons]; unfold D.plainTs
    rw [h x List.mem_cons_self, plains_map fun y hy => h y (List.mem_cons_of_mem _ hy)]; rfl
theorem plains_sub {xs ys : List D} (h : D.plainTs xs = true) (s : ∀ y ∈ ys, y ∈ xs) : D.plainTs ys = true := by
  have all : ∀ {l : List D}, D.plainTs l = true → ∀ x ∈ l, x.plainT = true := by
    intro l
    induction l with
    | nil => intro _ x hx; cases hx
    | cons a l ih =>
      intro q x hx
      unfold D.plainTs at q
      rw [Bool.and_eq_true] at q
      rcases List.mem_cons.mp hx with rfl | hx
      · exact q.1
      · exact ih q.2 x hx
  have := plains_map (f := id) (xs := ys) fun y hy => all h y (s y hy)
  rwa [List.map_id] at this
theorem deepns_sub {k : Nat} {xs ys : List D} (h : D.deepns xs ≤ k) (s : ∀ y ∈ ys, y ∈ xs) : D.deepns ys ≤ k := by
  have all : ∀ {l : List D}, ∀ x ∈ l, x.deepn ≤ D.deepns l := by
    intro l
    induction l with
    | nil => intro x hx; cases hx
    | cons a l ih =>
      intro x hx
      rw [D.deepns]
      rcases List.mem_cons.mp hx with rfl | hx
      · exact Nat.le_max_left _ _
      · exact Nat.le_trans (ih x hx) (Nat.le_max_right _ _)
  have := deepns_map (f := id) (c := k) (xs := ys) fun y hy => Nat.le_trans (all y (s y hy)) h
  rwa [List.map_id] at this
theorem eqv_nil : ∀ ps : List PyData, PyData.eqv (.list ps) (.list []) = ps.isEmpty
  | [] => rfl
  | _ :: _ => rfl
theorem pys_empty : ∀ {ds : List D} {ps : List PyData}, D.pys ds = some ps → ps.isEmpty = ds.isEmpty
  | [], ps, e => by unfold D.pys at e; cases e; rfl
  | d :: ds, ps, e => by
    unfold D.pys at e
    split at e
    · cases e; rfl
    · cases e
theorem eq_nilG {h : Hq} {n : Nat} {ds : List D} (e : h[n]? = some (.lst ds)) (pl : D.plainTs ds = true) (dp : D.deepns ds ≤ 60) : eqD h (.ref n) (.lst []) = some ds.isEmpty := by
  obtain ⟨ps, e1, c1, d1⟩ := plains_py ds pl
  have m1 : pyOf h (.ref n) = some (.list ps) := by
    unfold pyOf melt1 meltN D.melts D.melt
    rw [e]
    simp [meltN, plains_melt ds pl, D.melts, D.py, e1]
  have m2 : pyOf h (.lst []) = some (.list []) := by
    simp [pyOf, melt1, meltN, D.melts, D.melt, D.py, D.pys]
  have sh : SeqAt.shaped (.list ps) = true := by
    unfold SeqAt.shaped
    rw [Bool.and_eq_true]
    refine ⟨c1, decide_eq_true ?_⟩
    unfold PyData.depth
    rw [d1]; omega
  unfold eqD scalEq
  rw [m1, m2]
  show eqPy _ _ = _
  unfold eqPy
  rw [sh, show SeqAt.shaped (.list []) = true from shaped_ints []]
  show some (PyData.eqv (.list ps) (.list [])) = _
  rw [eqv_nil, pys_empty e1]
/-! ### a family of draws -/
structure Fam where
  S : Type
  ok : S → Prop
  base : S → Hq
  n : Nat
  root : Nat
  len : ∀ s, (base s).length = n
  und : ∀ s, ok s → (base s).all (Ob.under n) = true
def Fam.h (F : Fam) (s : F.S) (rest : Hq) : Hq := F.base s ++ rest
def FUnd (F : Fam) (rest : Hq) : Prop := rest.all (Ob.under (rest.length + F.n)) = true
section
variable {F : Fam} {s : F.S} {rest : Hq}
theorem fh_len : (F.h s rest).length = rest.length + F.n := by unfold Fam.h; rw [List.length_append, F.len]; omega
theorem fh_app {x : Hq} : F.h s rest ++ x = F.h s (rest ++ x) := by unfold Fam.h; rw [List.append_assoc]
theorem fh_at {j : Nat} : (F.h s rest)[j + F.n]? = rest[j]? := by
  unfold Fam.h
  rw [List.getElem?_append_right (by rw [F.len]; omega), F.len]
  congr 1; omega
theorem fh_set {j : Nat} {c : Ob} : (F.h s rest).set (j + F.n) c = F.h s (rest.set j c) := by
  unfold Fam.h
  rw [List.set_append_right (h := by rw [F.len]; omega), F.len]
  congr 2; omega
theorem fund_app {ds : List D} (u : FUnd F rest) (p : D.pures ds = true) : FUnd F (rest ++ [Ob.lst ds]) := by
  unfold FUnd at *
  rw [List.all_append, List.all_cons, List.all_nil, Bool.and_true, Bool.and_eq_true, List.length_append]
  refine ⟨?_, unders_pure ds p⟩
  rw [List.all_eq_true] at u ⊢
  exact fun x hx => Ob.under_mono (by simp) (u x hx)
theorem fund_app2 {xs ys : List D} (u : FUnd F rest) (p : D.pures xs = true) (q : D.pures ys = true) : FUnd F (rest ++ [Ob.lst xs, Ob.lst ys]) := by
  have := fund_app (fund_app u p) q
  rwa [List.append_assoc] at this
/-- the cell behind all others -/
theorem f_at {c : Ob} : (F.h s (rest ++ [c]))[rest.length + F.n]? = some c := by rw [fh_at]; simp
theorem f_set {c d : Ob} : (F.h s (rest ++ [c])).set (rest.length + F.n) d = F.h s (rest ++ [d]) := by rw [fh_set]; simp
theorem f_a {a b : Ob} : (F.h s (rest ++ [a, b]))[rest.length + F.n]? = some a := by rw [fh_at]; simp
theorem f_b {a b : Ob} : (F.h s (rest ++ [a, b]))[rest.length + 1 + F.n]? = some b := by rw [fh_at]; simp
theorem f_sa {a b c : Ob} : (F.h s (rest ++ [a, b])).set (rest.length + F.n) c = F.h s (rest ++ [c, b]) := by rw [fh_set]; simp
theorem f_sb {a b c : Ob} : (F.h s (rest ++ [a, b])).set (rest.length + 1 + F.n) c = F.h s (rest ++ [a, c]) := by rw [fh_set]; simp
end
/-- f draws: at args it tells what ok says -/
def FDraws (F : Fam) (f : List D → Hq → R (D × Hq)) (args : List D) (good : D → Prop) : Prop := ∀ (s : F.S) (rest : Hq), F.ok s → FUnd F rest →
  Wp (f args (F.h s rest)) fun p => ∃ s', p.2 = F.h s' rest ∧ F.ok s' ∧ good p.1
def FDrawOk (F : Fam) (f : List D → Hq → R (D × Hq)) : Prop := ∀ many : Int, 0 < many → many.natAbs.log2 < 9000 → FDraws F f [.ref F.root, .int many] fun x => ∃ z, x = .int z ∧ 0 ≤ z ∧ z < many
theorem fdraw {F : Fam} {f : List D → Hq → R (D × Hq)} (hd : FDrawOk F f) {many : Int} (h0 : 0 < many) (h1 : many.natAbs.log2 < 9000) : FDraws F f [.ref F.root, .int many] fun x => ∃ z, x = .int z ∧ 0 ≤ z ∧ z < many := hd many h0 h1
/-- a def that draws: its own cells go -/
theorem ftrim {F : Fam} {φ : Fn} {d : Def} {args : List D} {good : D → Prop} {s : F.S} {rest : Hq} (hm : d.mode = .trim) (hn : args.length = d.nps) (u : FUnd F rest)
    (body : Wp (exB φ d.body (args.map some ++ List.replicate (d.names.length - d.nps) none) (F.h s rest)) fun f => Wp (endOf f) fun p => ∃ s' own x', p.2 = F.h s' (rest ++ own) ∧ F.ok s' ∧ thaw1 (rest.length + F.n) p.2 p.1 = some x' ∧ good x') :
    Wp (runDef φ d args (F.h s rest)) fun p => ∃ s', p.2 = F.h s' rest ∧ F.ok s' ∧ good p.1 := by
  unfold runDef
  rw [if_neg (by rw [hn]; simp), hm]
  refine .bind (.bind (body.mono fun f w => w.mono ?_))
  rintro ⟨x, h'⟩ ⟨s', own, x', e, ok', th, g⟩
  dsimp only at e th
  subst e
  have ht : (F.h s' (rest ++ own)).take (F.h s rest).length = F.h s' rest := by
    rw [← fh_app, fh_len, ← fh_len (s := s'), List.take_left']
    rfl
  dsimp only
  rw [fh_len, th]
  dsimp only
  rw [← fh_len (s := s), ht, if_pos ?_]
  · exact .ok ⟨s', rfl, ok', g⟩
  · rw [fh_len]
    unfold Fam.h
    rw [List.all_append, Bool.and_eq_true]
    refine ⟨?_, u⟩
    have := F.und s' ok'
    rw [List.all_eq_true] at this ⊢
    exact fun x hx => Ob.under_mono (by omega) (this x hx)
theorem fdraws_trim {F : Fam} {φ : Fn} {d : Def} {args : List D} {good : D → Prop} (hm : d.mode = .trim) (hn : args.length = d.nps)
    (body : ∀ (s : F.S) (rest : Hq), F.ok s → FUnd F rest → Wp (exB φ d.body (args.map some ++ List.replicate (d.names.length - d.nps) none) (F.h s rest)) fun f => Wp (endOf f) fun p => ∃ s' own, p.2 = F.h s' (rest ++ own) ∧ F.ok s' ∧ p.1.pure = true ∧ good p.1) : FDraws F (runDef φ d) args good :=
  fun s rest ok u => ftrim hm hn u ((body s rest ok u).mono fun f w => w.mono fun p ⟨s', own, e, ok', px, g⟩ => ⟨s', own, p.1, e, ok', thaw1_pure px, g⟩)
theorem thaw_own {n k : Nat} {h : Hq} {ds : List D} (hk : n ≤ k) (e : h[k]? = some (.lst ds)) (p : D.pures ds = true) : thaw1 n h (.ref k) = some (.lst ds) := by
  unfold thaw1 thawN
  have q : D.thaws n (thawN n h 2) h [.ref k] = some [.lst ds] := by
    unfold D.thaws D.thaw
    rw [if_neg (by omega), e]
    simp [thawN, thaws_pure ds p, D.thaws]
  rw [q]
section
variable {F : Fam} {s : F.S} {rest : Hq} {P : D × Hq → Prop} {ds : List D}
theorem o_appF {d : D} (hl : ds.length < 16777216) (p : P (.non, F.h s (rest ++ [.lst (ds ++ [d])]))) : OkO (meD .lst .append (.ref (rest.length + F.n)) [d] (F.h s (rest ++ [.lst ds]))) P := by
  refine o_app f_at hl ?_
  rw [f_set]; exact p
theorem o_kindF {m : Me} {PK : Kd → Prop} (hf : meFits m .lst = true) (p : PK .lst) : OkO (meKind m (.ref (rest.length + F.n)) (F.h s (rest ++ [.lst ds]))) PK := o_kind f_at hf p
theorem o_setF {i : Int} {j : Nat} {d : D} {Ph : Hq → Prop} (hi : L2.ixN ds.length i = some j) (p : Ph (F.h s (rest ++ [.lst (ds.set j d)]))) : OkO (setD (.ref (rest.length + F.n)) (.int i) d (F.h s (rest ++ [.lst ds]))) Ph := by
  refine ⟨_, ?_, p⟩
  simp only [setD, f_at, hi, hset, f_set]
theorem o_ixF {i : Int} {d : D} (e : at? ds i = some d) (p : P (d, F.h s (rest ++ [.lst ds]))) : OkO (ixD (.ref (rest.length + F.n)) (.int i) (F.h s (rest ++ [.lst ds]))) P := o_ixR f_at e p
theorem o_tupF (p : P (.tup ds, F.h s (rest ++ [.lst ds]))) : OkO (biD .tuple false [.ref (rest.length + F.n)] (F.h s (rest ++ [.lst ds]))) P := by
  refine ⟨_, ?_, p⟩
  simp only [biD, un1, tupleD, sqlOf, FF.lstOf, f_at]
end
/-! ### one of some things, things mixed -/
def pickDef (dr : Nat) (a b : Str) : Def := ⟨.trim, 2, [a, b], .cons (.ret (.ix (.var 1) (.call dr (.cons (.var 0) (.cons (.bi .len false (.cons (.var 1) .nil)) .nil))))) .nil⟩
def FPickOk (F : Fam) (f : List D → Hq → R (D × Hq)) : Prop := ∀ ds : List D, ds ≠ [] → ds.length ≤ 1000000 → D.pures ds = true → FDraws F f [.ref F.root, .lst ds] fun x => x ∈ ds
theorem fpick_ok {F : Fam} {φ : Fn} {dr : Nat} {a b : Str} (hd : FDrawOk F (φ dr)) : FPickOk F (runDef φ (pickDef dr a b)) := by
  intro ds h0 h1 hp
  refine fdraws_trim rfl rfl fun s rest ok u => ?_
  refine FF.x_cons ?_
  refine FF.x_ret ?_
  refine FF.x_ix ?_
  refine FF.x_var (by rfl) ?_
  refine FF.x_call ?_
  refine FF.x_acons ?_
  refine FF.x_var (by rfl) ?_
  refine FF.x_acons ?_
  refine FF.x_bi ?_
  refine FF.x_acons ?_
  refine FF.x_var (by rfl) ?_
  refine FF.x_anil ?_
  refine FF.OkO.of rfl ?_
  refine FF.x_anil ?_
  try dsimp only [List.set_cons_zero, List.set_cons_succ]
  have hl : 0 < ds.length := List.length_pos_iff.mpr h0
  refine (fdraw hd (many := ds.length) (by omega) (log_small hl h1) s rest ok u).mono ?_
  rintro ⟨x, h'⟩ ⟨s', e, ok', z, e2, z0, z1⟩
  dsimp only at e e2
  subst e; subst e2
  refine o_ixL (at_mod z0 z1) ?_
  refine FF.nxt_rt ?_
  try dsimp only [List.set_cons_zero, List.set_cons_succ]
  refine FF.end_rt ?_
  try dsimp only [List.set_cons_zero, List.set_cons_succ]
  exact ⟨s', [], by rw [List.append_nil], ok', pures_mem hp _ (List.getElem_mem _), List.getElem_mem _⟩
theorem fpick {F : Fam} {f : List D → Hq → R (D × Hq)} (hp : FPickOk F f) (ns : List Int) (h0 : ns ≠ []) (h1 : ns.length ≤ 1000000) : FDraws F f [.ref F.root, .lst (ns.map .int)] fun x => ∃ z ∈ ns, x = .int z := by
  intro s rest ok u
  refine (hp (ns.map .int) (by simpa using h0) (by rw [List.length_map]; exact h1) (pures_map _ fun _ _ => rfl) s rest ok u).mono ?_
  rintro p ⟨s', e, ok', m⟩
  obtain ⟨z, hz, e2⟩ := List.mem_map.mp m
  exact ⟨s', e, ok', z, hz, e2.symm⟩
def mixedDef (dr : Nat) (a b c d : Str) : Def := ⟨.trim, 2, [a, b, c, d], (.cons (.set (.tup (.cons (.name 2) (.cons (.name 3) .nil))) (.tup (.cons (.bi .list true (.cons (.var 1) .nil)) (.cons (.lst true .nil) .nil)))) (.cons (.while (.cmp .NotEq (.var 2) (.lst false .nil)) (.cons (.expr (.me .append (.var 3) (.cons (.me .popAt (.var 2) (.cons (.call dr (.cons (.var 0) (.cons (.bi .len false (.cons (.var 2) .nil)) .nil))) .nil)) .nil))) .nil)) (.cons (.ret (.var 3)) .nil)))⟩
/-- things mixed: a list of them in another order -/
def FMixedOk (F : Fam) (f : List D → Hq → R (D × Hq)) : Prop := ∀ (x : D) (ds : List D) (s : F.S) (rest : Hq), F.ok s → FUnd F rest → itemsOf (F.h s rest) x = some ds → ds.length ≤ 1000 → D.pures ds = true → D.plainTs ds = true → D.deepns ds ≤ 60 →
  Wp (f [.ref F.root, x] (F.h s rest)) fun p => ∃ s', p.2 = F.h s' rest ∧ F.ok s' ∧ ∃ ms : List D, p.1 = .lst ms ∧ ms.Perm ds
theorem o_listAt {x : D} {ds : List D} {h : Hq} {P : D × Hq → Prop} (e : itemsOf h x = some ds) (hl : ds.length ≤ 16777216) (p : P (.ref h.length, h ++ [.lst ds])) : OkO (biD .list true [x] h) P := ⟨_, by simp [biD, un1, listD, e, mkL, lineOk, hl], p⟩
theorem pures_sub {xs ys : List D} (h : D.pures xs = true) (s : ∀ y ∈ ys, y ∈ xs) : D.pures ys = true := by
  have := pures_map (f := id) ys fun y hy => pures_mem h y (s y hy)
  rwa [List.map_id] at this
theorem fmixed_ok {F : Fam} {φ : Fn} {dr : Nat} {a b c d : Str} (hd : FDrawOk F (φ dr)) : FMixedOk F (runDef φ (mixedDef dr a b c d)) := by
  intro x ds s rest ok u hx dl dp pl de
  refine ftrim (d := mixedDef dr a b c d) (args := [.ref F.root, x]) (s := s) (good := fun p => ∃ ms : List D, p = .lst ms ∧ ms.Perm ds) rfl rfl u ?_
  refine FF.x_cons ?_
  refine FF.x_set ?_
  refine FF.x_tup ?_
  refine FF.x_acons ?_
  refine FF.x_bi ?_
  refine FF.x_acons ?_
  refine FF.x_var (by rfl) ?_
  refine FF.x_anil ?_
  try dsimp only [List.set_cons_zero, List.set_cons_succ]
  refine o_listAt hx (by omega) ?_
  refine FF.x_acons ?_
  refine FF.x_lst ?_
  refine FF.x_anil ?_
  refine FF.OkO.of rfl ?_
  refine FF.x_anil ?_
  refine FF.OkO.of rfl ?_
  refine FF.OkO.of rfl ?_
  refine FF.nxt_nx ?_
  try dsimp only [List.set_cons_zero, List.set_cons_succ]
  refine FF.x_cons ?_
  refine FF.x_while ?_
  try dsimp only [List.set_cons_zero, List.set_cons_succ]
  rw [List.length_append, fh_len, List.length_singleton, fh_app, fh_app, List.append_assoc, show rest.length + F.n + 1 = rest.length + 1 + F.n by omega]
  refine wp_loopW (fun st h m => ∃ (left found : List D) (s : F.S), st = [some (.ref F.root), some x, some (.ref (rest.length + F.n)), some (.ref (rest.length + 1 + F.n))] ∧ h = F.h s (rest ++ [.lst left, .lst found]) ∧ F.ok s ∧ left.length = m ∧ (found ++ left).Perm ds) ?_ fuel ds.length _ _ (Nat.lt_of_le_of_lt dl (by decide)) ⟨ds, [], s, rfl, rfl, ok, rfl, by rw [List.nil_append]⟩
  rintro st h m ⟨left, found, s, rfl, rfl, ok, hm, pm⟩
  have ln := pm.length_eq
  rw [List.length_append] at ln
  have sL : ∀ y ∈ left, y ∈ ds := fun y hy => pm.mem_iff.mp (List.mem_append_right _ hy)
  have sF : ∀ y ∈ found, y ∈ ds := fun y hy => pm.mem_iff.mp (List.mem_append_left _ hy)
  refine FF.x_testOf ?_
  refine FF.x_cmp ?_
  refine FF.x_var (by rfl) ?_
  refine FF.x_lst ?_
  refine FF.x_anil ?_
  refine FF.OkO.of rfl ?_
  try dsimp only [List.set_cons_zero, List.set_cons_succ]
  refine o_ne (eq_nilG f_a (plains_sub pl sL) (deepns_sub de sL)) ?_
  refine FF.OkO.of rfl ?_
  try dsimp only [List.set_cons_zero, List.set_cons_succ]
  cases left with
  | nil =>
    refine .inl ⟨rfl, ?_⟩
    refine FF.nxt_nx ?_
    try dsimp only [List.set_cons_zero, List.set_cons_succ]
    refine FF.x_cons ?_
    refine FF.x_ret ?_
    refine FF.x_var (by rfl) ?_
    refine FF.nxt_rt ?_
    try dsimp only [List.set_cons_zero, List.set_cons_succ]
    refine FF.end_rt ?_
    try dsimp only [List.set_cons_zero, List.set_cons_succ]
    refine ⟨s, _, _, rfl, ok, thaw_own (by omega) f_b (pures_sub dp sF), found, rfl, ?_⟩
    rwa [List.append_nil] at pm
  | cons y left =>
    refine .inr ⟨rfl, ?_⟩
    have u' := fund_app2 u (pures_sub dp sL) (pures_sub dp sF)
    rw [List.length_cons] at hm ln
    refine FF.x_cons ?_
    refine FF.x_expr ?_
    refine FF.x_me ?_
    refine FF.x_var (by rfl) ?_
    try dsimp only [List.set_cons_zero, List.set_cons_succ]
    refine o_kind f_b rfl ?_
    refine FF.x_acons ?_
    refine FF.x_me ?_
    refine FF.x_var (by rfl) ?_
    try dsimp only [List.set_cons_zero, List.set_cons_succ]
    refine o_kind f_a rfl ?_
    refine FF.x_acons ?_
    refine FF.x_call ?_
    refine FF.x_acons ?_
    refine FF.x_var (by rfl) ?_
    refine FF.x_acons ?_
    refine FF.x_bi ?_
    refine FF.x_acons ?_
    refine FF.x_var (by rfl) ?_
    refine FF.x_anil ?_
    try dsimp only [List.set_cons_zero, List.set_cons_succ]
    refine o_lenAt f_a ?_
    refine FF.x_anil ?_
    try dsimp only [List.set_cons_zero, List.set_cons_succ]
    refine (fdraw hd (many := (((y :: left).length : Nat) : Int)) (by simp) (log_small (by simp) (by rw [List.length_cons]; omega)) _ _ ok u').mono ?_
    rintro ⟨_, _⟩ ⟨_, ee, ok, j, ee2, j0, j1⟩
    dsimp only at ee ee2
    subst ee; subst ee2
    rw [List.length_cons] at j1
    obtain ⟨j, rfl⟩ := Int.eq_ofNat_of_zero_le j0
    have hj : j < (y :: left).length := by rw [List.length_cons]; omega
    refine FF.x_anil ?_
    try dsimp only [List.set_cons_zero, List.set_cons_succ]
    refine o_popAt f_a (by rw [List.length_cons]; omega) (ixN_at hj) (d := (y :: left)[j]) (List.getElem?_eq_getElem hj) ?_
    rw [f_sa]
    refine FF.x_anil ?_
    try dsimp only [List.set_cons_zero, List.set_cons_succ]
    refine o_app f_b (by omega) ?_
    rw [f_sb]
    refine FF.nxt_nx ?_
    try dsimp only [List.set_cons_zero, List.set_cons_succ]
    refine FF.x_nil ?_
    try dsimp only [List.set_cons_zero, List.set_cons_succ]
    refine ⟨left.length, by omega, (y :: left).eraseIdx j, found ++ [(y :: left)[j]], _, rfl, rfl, ok, ?_, ?_⟩
    · rw [List.length_eraseIdx, if_pos hj, List.length_cons]; rfl
    · rw [List.append_assoc]
      exact List.Perm.trans (List.Perm.append_left found (perm_erase _ j hj)) pm
/-! ### a search -/
theorem wp_find {α β : Type} {w : Watch} {step : D → Env' → Hq → R Fl} {Q : Fl → Prop} {h : Hq} (f : α → D) (g : α → Option β) (val : β → D) (Inv : Env' → Prop) (hw : stands h w = true) : ∀ (as : List α) (s : Env'), Inv s →
    (∀ a ∈ as, ∀ s, Inv s → Wp (step (f a) s h) fun r => (∃ v, g a = some v ∧ r = .rt (val v) h) ∨ (g a = none ∧ ∃ s', r = .nx s' h ∧ Inv s')) →
    (∀ v, as.findSome? g = some v → Q (.rt (val v) h)) → (as.findSome? g = none → ∀ s', Inv s' → Q (.nx s' h)) → Wp (loopF w step (as.map f) s h) Q
  | [], s, i, _, _, q2 => by
    rw [List.map_nil]
    unfold loopF
    rw [if_pos hw]
    exact .ok (q2 rfl s i)
  | a :: as, s, i, st, q1, q2 => by
    rw [List.map_cons]
    unfold loopF
    rw [if_pos hw]
    refine .bind ((st a List.mem_cons_self s i).mono ?_)
    rintro _ (⟨v, e, rfl⟩ | ⟨e, s', rfl, i'⟩)
    · exact .ok (q1 v (by rw [List.findSome?_cons, e]))
    · exact wp_find f g val Inv hw as s' i' (fun a m => st a (List.mem_cons_of_mem _ m)) (fun v q => q1 v (by rw [List.findSome?_cons, e]; exact q)) fun q => q2 (by rw [List.findSome?_cons, e]; exact q)
end FF

/-! FFDeck: the decks of the laws of level books. -/
namespace FF
open PySem PySem.Spec L2
def R_ddraw : Def := ⟨.trim, 2, ["deck", "many", "cell", "mixed"], (.cons (.ite (.cmp .NotEq (.ix (.var 0) (.const (.int 0))) (.lst false .nil)) (.cons (.set (.name 2) (.ix (.ix (.var 0) (.const (.int 0))) (.const (.int 0)))) (.cons (.setIx (.ix (.var 0) (.const (.int 0))) (.const (.int 0)) (.bin .FloorDiv false (.var 2) (.var 1))) (.cons (.ite (.cmp .Lt (.var 2) (.var 1)) (.cons (.expr (.me .popAt (.ix (.var 0) (.const (.int 0))) (.cons (.const (.int 0)) .nil))) .nil) .nil) (.cons (.ret (.bin .Mod false (.bi .int false (.cons (.var 2) .nil)) (.var 1))) .nil)))) .nil) (.cons (.setIx (.var 0) (.const (.int 2)) (.bin .Add false (.ix (.var 0) (.const (.int 2))) (.const (.int 1)))) (.cons (.set (.name 3) (.bin .Mod false (.bi .int false (.cons (.bin .Add false (.ix (.var 0) (.const (.int 1))) (.bin .Mult false (.const (.int 2654435761)) (.ix (.var 0) (.const (.int 2))))) .nil)) (.const (.int 4294967291)))) (.cons (.set (.name 3) (.bin .Mod false (.bi .int false (.cons (.bin .Add false (.bin .Add false (.bin .Mult false (.var 3) (.var 3)) (.bin .Mult false (.const (.int 40503)) (.ix (.var 0) (.const (.int 2))))) (.const (.int 11))) .nil)) (.const (.int 4294967279)))) (.cons (.set (.name 3) (.bin .Mod false (.bi .int false (.cons (.bin .Add false (.bin .Mult false (.var 3) (.var 3)) (.ix (.var 0) (.const (.int 1)))) .nil)) (.const (.int 4294967231)))) (.cons (.ret (.bin .Mod false (.bi .int false (.cons (.bin .FloorDiv false (.var 3) (.const (.int 64))) .nil)) (.var 1))) .nil))))))⟩
def deckDef (c0 : Int) : Def := ⟨.live, 1, ["script", "cells", "stirred", "cell"], (.cons (.set (.tup (.cons (.name 1) (.cons (.name 2) .nil))) (.tup (.cons (.comp false (.name 3) (.ex (.slice (.var 0) .no (.yes (.const (.int 63))))) .nil (.ife (.cmp .GtE (.var 3) (.const (.int 0))) (.bin .Mult false (.const (.int 2)) (.var 3)) (.bin .Sub false (.bin .Mult false (.neg (.const (.int 2))) (.var 3)) (.const (.int 1)))) [3]) (.cons (.bin .Add false (.const (.int c0)) (.bi .len false (.cons (.var 0) .nil))) .nil)))) (.cons (.for (.name 3) (.ex (.var 1)) (.cons (.set (.name 2) (.bin .Mod false (.bi .int false (.cons (.bin .Add false (.bin .Mult false (.var 2) (.const (.int 48271))) (.var 3)) .nil)) (.const (.int 4294967291)))) .nil)) (.cons (.ret (.lst true (.cons (.comp true (.name 3) (.ex (.var 1)) (.cons (.cmp .GtE (.var 3) (.bin .Pow false (.const (.int 10)) (.const (.int 15)))) .nil) (.var 3) [3]) (.cons (.var 2) (.cons (.const (.int 0)) .nil))))) .nil)))⟩
def R_levelE : Def := ⟨.pure, 1, ["book", "powers", "x", "lack", "y", "own", "room"], (.cons (.set (.name 1) (.comp false (.name 6) (.ex (.call 38 (.cons (.var 0) .nil))) .nil (.call 40 (.cons (.var 6) .nil)) [6])) (.cons (.for (.tup (.cons (.name 2) (.cons (.name 3) .nil))) (.enum (.ex (.call 39 (.cons (.var 0) .nil)))) (.cons (.for (.tup (.cons (.name 4) (.cons (.name 5) .nil))) (.enum (.ex (.var 1))) (.cons (.ite (.cmp .GtE (.var 3) (.var 5)) (.cons (.ret (.tup (.cons (.var 2) (.cons (.var 4) .nil)))) .nil) .nil) .nil)) .nil)) (.cons (.ret (.const .non)) .nil)))⟩
def R_lpair : Def := ⟨.pure, 1, ["book", "x", "one", "y", "other"], (.cons (.for (.tup (.cons (.name 1) (.cons (.name 2) .nil))) (.enum (.ex (.var 0))) (.cons (.for (.tup (.cons (.name 3) (.cons (.name 4) .nil))) (.enum (.ex (.var 0))) (.cons (.ite (.cmp .GtE (.call 63 (.cons (.var 2) .nil)) (.call 64 (.cons (.call 62 (.cons (.var 4) .nil)) .nil))) (.cons (.ret (.tup (.cons (.var 1) (.cons (.var 3) .nil)))) .nil) .nil) .nil)) .nil)) (.cons (.ret (.const .non)) .nil))⟩
def R_lroom : Def := ⟨.pure, 1, ["kind"], (.cons (.ret (.call 61 (.cons (.ix (.var 0) (.const (.int 0))) (.cons (.ix (.var 0) (.const (.int 1))) .nil)))) .nil)⟩
def R_llack : Def := ⟨.pure, 1, ["kind"], (.cons (.ret (.bin .Sub false (.call 62 (.cons (.var 0) .nil)) (.ix (.var 0) (.const (.int 0))))) .nil)⟩
def R_lkind : Def := ⟨.trim, 5, ["deck", "unit", "lack", "alignment", "is_great", "step", "many"], (.cons (.set (.name 5) (.bi .max2 false (.cons (.var 1) (.cons (.var 3) .nil)))) (.cons (.set (.name 6) (.bin .Add false (.const (.int 1)) (.call 53 (.cons (.var 0) (.cons (.const (.int 5)) .nil))))) (.cons (.ite (.var 4) (.cons (.set (.name 6) (.bin .Sub false (.bin .FloorDiv false (.bin .Pow false (.const (.int 10)) (.const (.int 30))) (.var 5)) (.call 53 (.cons (.var 0) (.cons (.const (.int 3)) .nil))))) .nil) .nil) (.cons (.ret (.tup (.cons (.bi .max2 false (.cons (.const (.int 1)) (.cons (.bin .Sub false (.bin .Mult false (.var 6) (.var 5)) (.var 2)) .nil))) (.cons (.var 3) .nil)))) .nil))))⟩
def R_llevel : Def := ⟨.trim, 2, ["deck", "kinds", "unit", "found", "is_great", "turn", "alignment", "most", "lack"], (.cons (.set (.tup (.cons (.name 2) (.cons (.name 3) .nil))) (.tup (.cons (.bin .LShift false (.const (.int 1)) (.call 53 (.cons (.var 0) (.cons (.const (.int 6)) .nil)))) (.cons (.lst true .nil) .nil)))) (.cons (.set (.name 4) (.cmp .Eq (.call 53 (.cons (.var 0) (.cons (.const (.int 6)) .nil))) (.const (.int 0)))) (.cons (.for (.name 5) (.range1 (.var 1)) (.cons (.set (.name 6) (.bin .LShift false (.const (.int 1)) (.call 53 (.cons (.var 0) (.cons (.const (.int 7)) .nil))))) (.cons (.set (.name 7) (.bin .Sub false (.bi .min2 false (.cons (.var 2) (.cons (.var 6) .nil))) (.const (.int 1)))) (.cons (.set (.name 8) (.call 54 (.cons (.var 0) (.cons (.lst false (.cons (.const (.int 0)) (.cons (.var 7) (.cons (.call 53 (.cons (.var 0) (.cons (.bin .Add false (.var 7) (.const (.int 1))) .nil))) .nil)))) .nil)))) (.cons (.expr (.me .append (.var 3) (.cons (.call 55 (.cons (.var 0) (.cons (.var 2) (.cons (.var 8) (.cons (.var 6) (.cons (.andV (.var 4) (.cmp .Eq (.call 53 (.cons (.var 0) (.cons (.const (.int 2)) .nil))) (.const (.int 0)))) .nil)))))) .nil))) .nil))))) (.cons (.ret (.tup (.cons (.bi .tuple false (.cons (.var 3) .nil)) (.cons (.var 2) .nil)))) .nil))))⟩
def R_ljust : Def := ⟨.trim, 2, ["deck", "kinds", "book", "unit", "alignment", "lack", "found"], (.cons (.set (.tup (.cons (.name 2) (.cons (.name 3) .nil))) (.call 56 (.cons (.var 0) (.cons (.var 1) .nil)))) (.cons (.set (.name 3) (.bi .min2 false (.cons (.var 3) (.cons (.const (.int 32)) .nil)))) (.cons (.set (.name 4) (.bin .Mult false (.var 3) (.call 54 (.cons (.var 0) (.cons (.lst false (.cons (.const (.int 2)) (.cons (.const (.int 2)) (.cons (.bin .FloorDiv false (.const (.int 64)) (.var 3)) .nil)))) .nil))))) (.cons (.set (.name 5) (.call 54 (.cons (.var 0) (.cons (.lst false (.cons (.var 3) (.cons (.var 3) (.cons (.bin .Sub false (.var 3) (.const (.int 1))) (.cons (.bin .Sub false (.var 4) (.const (.int 1))) .nil))))) .nil)))) (.cons (.set (.name 6) (.bin .Add true (.slice (.bi .list false (.cons (.var 2) .nil)) .no (.yes (.const (.int 4)))) (.lst false (.cons (.tup (.cons (.bin .Sub false (.bin .Mult false (.var 3) (.bin .Add false (.const (.int 1)) (.bin .Mult false (.const (.int 2)) (.call 53 (.cons (.var 0) (.cons (.const (.int 4)) .nil)))))) (.call 53 (.cons (.var 0) (.cons (.bi .min2 false (.cons (.var 3) (.cons (.const (.int 2)) .nil))) .nil)))) (.cons (.const (.int 1)) .nil))) .nil)))) (.cons (.expr (.me .append (.var 6) (.cons (.call 55 (.cons (.var 0) (.cons (.var 3) (.cons (.var 5) (.cons (.var 4) (.cons (.cmp .Eq (.call 53 (.cons (.var 0) (.cons (.const (.int 8)) .nil))) (.const (.int 0))) .nil)))))) .nil))) (.cons (.ret (.bi .tuple false (.cons (.call 57 (.cons (.var 0) (.cons (.var 6) .nil))) .nil))) .nil)))))))⟩
structure DeckS where
  deep : List Int
  st : Int
  cnt : Int
def deckF : Fam where
  S := DeckS
  ok := fun s => s.deep.length ≤ 64 ∧ 0 ≤ s.st ∧ s.st < 4294967296
  base := fun s => [.lst (s.deep.map .int), .lst [.ref 0, .int s.st, .int s.cnt]]
  n := 2
  root := 1
  len := fun _ => rfl
  und := fun s _ => by simp [Ob.under, D.under, D.unders, unders_ints]
theorem o_shl {live : Bool} {h : Hq} {P : D × Hq → Prop} {i j : Int} (e : powOk i j = true) (p : P (.int (i * 2 ^ j.toNat), h)) : OkO (binop .LShift live (.int i) (.int j) h) P := ⟨_, by simp [binop, int2, e], p⟩
theorem o_setAt {n : Nat} {ds : List D} {i : Int} {j : Nat} {d : D} {h : Hq} {Ph : Hq → Prop} (hn : h[n]? = some (.lst ds)) (hi : L2.ixN ds.length i = some j) (p : Ph (h.set n (.lst (ds.set j d)))) : OkO (setD (.ref n) (.int i) d h) Ph := by
  refine ⟨_, ?_, p⟩
  simp only [setD, hn, hi, hset]
theorem at_zero {ds : List D} {d : D} (e : ds[0]? = some d) : at? ds 0 = some d := by
  unfold at?
  exact atI_nat (j := 0) e
theorem ixN_zero {n : Nat} : L2.ixN (n + 1) 0 = some 0 := ixN_at (Nat.succ_pos n)
theorem ddraw_ok {φ : Fn} : FDrawOk deckF (runDef φ R_ddraw) := by
  intro many hm hb s rest ok u
  obtain ⟨deep, st, cnt⟩ := s
  obtain ⟨dl, s0, s1⟩ := ok
  dsimp only at dl s0 s1
  have em : ∀ z : Int, 0 ≤ z % many ∧ z % many < many := fun z => ⟨Int.emod_nonneg _ (by omega), Int.emod_lt_of_pos _ hm⟩
  refine ftrim (F := deckF) (d := R_ddraw) (args := [.ref deckF.root, .int many]) (s := (⟨deep, st, cnt⟩ : DeckS)) (good := fun x => ∃ z, x = .int z ∧ 0 ≤ z ∧ z < many) rfl rfl u ?_
  have fin : ∀ (deep : List Int) (st cnt z : Int), deep.length ≤ 64 → 0 ≤ st → st < 4294967296 → ∃ (s' : DeckS) (own : Hq) (x' : D), deckF.h (⟨deep, st, cnt⟩ : DeckS) rest = deckF.h s' (rest ++ own) ∧ deckF.ok s' ∧ thaw1 (rest.length + deckF.n) (deckF.h (⟨deep, st, cnt⟩ : DeckS) rest) (.int (z % many)) = some x' ∧ ∃ z, x' = .int z ∧ 0 ≤ z ∧ z < many :=
    fun deep st cnt z h1 h2 h3 => ⟨⟨deep, st, cnt⟩, [], .int (z % many), by rw [List.append_nil], ⟨h1, h2, h3⟩, thaw_int, _, rfl, em z⟩
  refine FF.x_cons ?_
  refine FF.x_ite ?_
  refine FF.x_cmp ?_
  refine FF.x_ix ?_
  refine FF.x_var (by rfl) ?_
  refine FF.x_const ?_
  refine FF.OkO.of rfl ?_
  refine FF.x_lst ?_
  refine FF.x_anil ?_
  refine FF.OkO.of rfl ?_
  try dsimp only [List.set_cons_zero, List.set_cons_succ]
  refine o_ne (eq_nil (ns := deep) (by rfl)) ?_
  refine FF.OkO.of rfl ?_
  try dsimp only [List.set_cons_zero, List.set_cons_succ]
  cases deep with
  | cons a l =>
    rw [List.length_cons] at dl
    refine FF.Cd.tt ?_
    refine FF.x_cons ?_
    refine FF.x_set ?_
    refine FF.x_ix ?_
    refine FF.x_ix ?_
    refine FF.x_var (by rfl) ?_
    refine FF.x_const ?_
    refine FF.OkO.of rfl ?_
    refine FF.x_const ?_
    try dsimp only [List.set_cons_zero, List.set_cons_succ]
    refine o_ixR (ds := (a :: l).map D.int) (d := .int a) (by rfl) (at_zero rfl) ?_
    refine FF.OkO.of rfl ?_
    refine FF.nxt_nx ?_
    try dsimp only [List.set_cons_zero, List.set_cons_succ]
    refine FF.x_cons ?_
    refine FF.x_setIx ?_
    refine FF.x_bin ?_
    refine FF.x_var (by rfl) ?_
    refine FF.x_var (by rfl) ?_
    try dsimp only [List.set_cons_zero, List.set_cons_succ]
    refine o_div hm hb ?_
    refine FF.x_ix ?_
    refine FF.x_var (by rfl) ?_
    refine FF.x_const ?_
    refine FF.OkO.of rfl ?_
    refine FF.x_const ?_
    try dsimp only [List.set_cons_zero, List.set_cons_succ]
    refine o_setAt (ds := (a :: l).map D.int) (j := 0) (by rfl) ixN_zero ?_
    refine FF.nxt_nx ?_
    try dsimp only [List.set_cons_zero, List.set_cons_succ]
    refine FF.x_cons ?_
    refine FF.x_ite ?_
    refine FF.x_cmp ?_
    refine FF.x_var (by rfl) ?_
    refine FF.x_var (by rfl) ?_
    refine FF.OkO.of rfl ?_
    refine FF.OkO.of rfl ?_
    try dsimp only [List.set_cons_zero, List.set_cons_succ]
    refine ⟨fun c => ?_, fun c => ?_⟩
    · refine FF.x_cons ?_
      refine FF.x_expr ?_
      refine FF.x_me ?_
      refine FF.x_ix ?_
      refine FF.x_var (by rfl) ?_
      refine FF.x_const ?_
      refine FF.OkO.of rfl ?_
      refine FF.OkO.of rfl ?_
      refine FF.x_acons ?_
      refine FF.x_const ?_
      refine FF.x_anil ?_
      try dsimp only [List.set_cons_zero, List.set_cons_succ]
      refine o_popAt (ds := (D.int (a / many)) :: l.map D.int) (j := 0) (by rfl) (by rw [List.length_cons, List.length_map]; omega) ixN_zero (d := .int (a / many)) (by rfl) ?_
      refine FF.nxt_nx ?_
      try dsimp only [List.set_cons_zero, List.set_cons_succ]
      refine FF.x_nil ?_
      refine FF.nxt_nx ?_
      try dsimp only [List.set_cons_zero, List.set_cons_succ]
      refine FF.x_cons ?_
      refine FF.x_ret ?_
      refine FF.x_bin ?_
      refine FF.x_bi ?_
      refine FF.x_acons ?_
      refine FF.x_var (by rfl) ?_
      refine FF.x_anil ?_
      refine FF.OkO.of rfl ?_
      refine FF.x_var (by rfl) ?_
      try dsimp only [List.set_cons_zero, List.set_cons_succ]
      refine o_mod hm ?_
      refine FF.nxt_rt ?_
      try dsimp only [List.set_cons_zero, List.set_cons_succ]
      refine FF.nxt_rt ?_
      try dsimp only [List.set_cons_zero, List.set_cons_succ]
      refine FF.end_rt ?_
      try dsimp only [List.set_cons_zero, List.set_cons_succ]
      exact fin l st cnt a (by omega) s0 s1
    · refine FF.x_nil ?_
      refine FF.nxt_nx ?_
      try dsimp only [List.set_cons_zero, List.set_cons_succ]
      refine FF.x_cons ?_
      refine FF.x_ret ?_
      refine FF.x_bin ?_
      refine FF.x_bi ?_
      refine FF.x_acons ?_
      refine FF.x_var (by rfl) ?_
      refine FF.x_anil ?_
      refine FF.OkO.of rfl ?_
      refine FF.x_var (by rfl) ?_
      try dsimp only [List.set_cons_zero, List.set_cons_succ]
      refine o_mod hm ?_
      refine FF.nxt_rt ?_
      try dsimp only [List.set_cons_zero, List.set_cons_succ]
      refine FF.nxt_rt ?_
      try dsimp only [List.set_cons_zero, List.set_cons_succ]
      refine FF.end_rt ?_
      try dsimp only [List.set_cons_zero, List.set_cons_succ]
      exact fin (a / many :: l) st cnt a (by rw [List.length_cons]; omega) s0 s1
  | nil =>
    refine FF.Cd.ff ?_
    refine FF.x_nil ?_
    refine FF.nxt_nx ?_
    try dsimp only [List.set_cons_zero, List.set_cons_succ]
    refine FF.x_cons ?_
    refine FF.x_setIx ?_
    refine FF.x_bin ?_
    refine FF.x_ix ?_
    refine FF.x_var (by rfl) ?_
    refine FF.x_const ?_
    refine FF.OkO.of rfl ?_
    refine FF.x_const ?_
    refine FF.OkO.of rfl ?_
    refine FF.x_var (by rfl) ?_
    refine FF.x_const ?_
    refine FF.OkO.of rfl ?_
    refine FF.nxt_nx ?_
    try dsimp only [List.set_cons_zero, List.set_cons_succ]
    refine FF.x_cons ?_
    refine FF.x_set ?_
    refine FF.x_bin ?_
    refine FF.x_bi ?_
    refine FF.x_acons ?_
    refine FF.x_bin ?_
    refine FF.x_ix ?_
    refine FF.x_var (by rfl) ?_
    refine FF.x_const ?_
    refine FF.OkO.of rfl ?_
    refine FF.x_bin ?_
    refine FF.x_const ?_
    refine FF.x_ix ?_
    refine FF.x_var (by rfl) ?_
    refine FF.x_const ?_
    refine FF.OkO.of rfl ?_
    refine FF.OkO.of rfl ?_
    refine FF.OkO.of rfl ?_
    refine FF.x_anil ?_
    refine FF.OkO.of rfl ?_
    refine FF.x_const ?_
    refine FF.OkO.of rfl ?_
    refine FF.OkO.of rfl ?_
    refine FF.nxt_nx ?_
    try dsimp only [List.set_cons_zero, List.set_cons_succ]
    refine FF.x_cons ?_
    refine FF.x_set ?_
    refine FF.x_bin ?_
    refine FF.x_bi ?_
    refine FF.x_acons ?_
    refine FF.x_bin ?_
    refine FF.x_bin ?_
    refine FF.x_bin ?_
    refine FF.x_var (by rfl) ?_
    refine FF.x_var (by rfl) ?_
    try dsimp only [List.set_cons_zero, List.set_cons_succ]
    have m1 := Int.emod_nonneg (st + 2654435761 * (cnt + 1)) (show (4294967291 : Int) ≠ 0 by decide)
    have m2 := Int.emod_lt_of_pos (st + 2654435761 * (cnt + 1)) (show (0 : Int) < 4294967291 by decide)
    refine o_mul (mulOk_l (by omega) (by omega)) ?_
    refine FF.x_bin ?_
    refine FF.x_const ?_
    refine FF.x_ix ?_
    refine FF.x_var (by rfl) ?_
    refine FF.x_const ?_
    refine FF.OkO.of rfl ?_
    refine FF.OkO.of rfl ?_
    refine FF.OkO.of rfl ?_
    refine FF.x_const ?_
    refine FF.OkO.of rfl ?_
    refine FF.x_anil ?_
    refine FF.OkO.of rfl ?_
    refine FF.x_const ?_
    refine FF.OkO.of rfl ?_
    refine FF.OkO.of rfl ?_
    refine FF.nxt_nx ?_
    try dsimp only [List.set_cons_zero, List.set_cons_succ]
    refine FF.x_cons ?_
    refine FF.x_set ?_
    refine FF.x_bin ?_
    refine FF.x_bi ?_
    refine FF.x_acons ?_
    refine FF.x_bin ?_
    refine FF.x_bin ?_
    refine FF.x_var (by rfl) ?_
    refine FF.x_var (by rfl) ?_
    try dsimp only [List.set_cons_zero, List.set_cons_succ]
    generalize hm1 : (((st + 2654435761 * (cnt + 1)) % 4294967291) * ((st + 2654435761 * (cnt + 1)) % 4294967291) + 40503 * (cnt + 1) + 11) = M
    have m3 := Int.emod_nonneg M (show (4294967279 : Int) ≠ 0 by decide)
    have m4 := Int.emod_lt_of_pos M (show (0 : Int) < 4294967279 by decide)
    refine o_mul (mulOk_l (by omega) (by omega)) ?_
    refine FF.x_ix ?_
    refine FF.x_var (by rfl) ?_
    refine FF.x_const ?_
    refine FF.OkO.of rfl ?_
    refine FF.OkO.of rfl ?_
    refine FF.x_anil ?_
    refine FF.OkO.of rfl ?_
    refine FF.x_const ?_
    refine FF.OkO.of rfl ?_
    refine FF.OkO.of rfl ?_
    refine FF.nxt_nx ?_
    try dsimp only [List.set_cons_zero, List.set_cons_succ]
    refine FF.x_cons ?_
    refine FF.x_ret ?_
    refine FF.x_bin ?_
    refine FF.x_bi ?_
    refine FF.x_acons ?_
    refine FF.x_bin ?_
    refine FF.x_var (by rfl) ?_
    refine FF.x_const ?_
    refine FF.OkO.of rfl ?_
    refine FF.x_anil ?_
    refine FF.OkO.of rfl ?_
    refine FF.x_var (by rfl) ?_
    try dsimp only [List.set_cons_zero, List.set_cons_succ]
    refine o_mod hm ?_
    refine FF.nxt_rt ?_
    try dsimp only [List.set_cons_zero, List.set_cons_succ]
    refine FF.end_rt ?_
    try dsimp only [List.set_cons_zero, List.set_cons_succ]
    exact fin [] st (cnt + 1) _ (by simp) s0 s1
def FDeckOk (F : Fam) (f : List D → Hq → R (D × Hq)) : Prop := ∀ ns : List Int, ns.length ≤ 63 → Wp (f [.scr ns] []) fun p => p.1 = .ref F.root ∧ ∃ s, p.2 = F.h s [] ∧ F.ok s
theorem deck_ok {φ : Fn} {c0 : Int} (h0 : 0 ≤ c0) (h1 : c0 < 1000000) : FDeckOk deckF (runDef φ (deckDef c0)) := by
  intro ns hl
  unfold runDef
  rw [if_neg (by simp [deckDef])]
  refine .bind ?_
  refine FF.x_cons ?_
  refine FF.x_set ?_
  refine FF.x_tup ?_
  refine FF.x_acons ?_
  refine FF.x_comp ?_
  refine FF.x_iex ?_
  refine FF.x_slice ?_
  refine FF.x_var (by rfl) ?_
  refine FF.x_no ?_
  refine FF.x_yes ?_
  refine FF.x_const ?_
  try dsimp only [List.set_cons_zero, List.set_cons_succ]
  refine ⟨63, rfl, ?_⟩
  refine FF.OkO.of rfl ?_
  refine FF.OkO.of rfl ?_
  try dsimp only [List.set_cons_zero, List.set_cons_succ]
  rw [show (some (63 : Int)) = some ((63 : Nat) : Int) from rfl, cut_few (k := 63) (by rw [List.length_map]; exact hl)]
  refine wp_turns (fun k acc h => ∃ cs : List Int, acc = cs.map .int ∧ cs.length = k ∧ h = []) _ 0 _ _ ⟨[], rfl, rfl, rfl⟩ ?_ ?_
  · rintro i d acc h e ⟨cs, rfl, hc, rfl⟩
    obtain ⟨z, _, rfl⟩ := ints_get e
    have hi := (List.getElem?_eq_some_iff.mp e).1
    rw [List.length_map] at hi
    have fin : ∀ x : Int, ∃ cs' : List Int, cs.map D.int ++ [.int x] = cs'.map .int ∧ cs'.length = 0 + i + 1 ∧ ([] : Hq) = [] := fun x => ⟨cs ++ [x], by rw [List.map_append]; rfl, by rw [List.length_append, hc]; rfl, rfl⟩
    refine ⟨rfl, by rw [List.length_map]; omega, ?_⟩
    refine FF.x_stepC ?_
    refine FF.OkO.of rfl ?_
    refine FF.x_if0 ?_
    refine FF.Cd.tt ?_
    refine FF.x_ife ?_
    refine FF.x_cmp ?_
    refine FF.x_var (by rfl) ?_
    refine FF.x_const ?_
    refine FF.OkO.of rfl ?_
    refine FF.OkO.of rfl ?_
    try dsimp only [List.set_cons_zero, List.set_cons_succ]
    refine ⟨fun c => ?_, fun c => ?_⟩
    · refine FF.x_bin ?_
      refine FF.x_const ?_
      refine FF.x_var (by rfl) ?_
      refine FF.OkO.of rfl ?_
      try dsimp only [List.set_cons_zero, List.set_cons_succ]
      exact fin _
    · refine FF.x_bin ?_
      refine FF.x_bin ?_
      refine FF.x_neg ?_
      refine FF.x_const ?_
      refine FF.OkO.of rfl ?_
      refine FF.x_var (by rfl) ?_
      refine FF.OkO.of rfl ?_
      refine FF.x_const ?_
      refine FF.OkO.of rfl ?_
      try dsimp only [List.set_cons_zero, List.set_cons_succ]
      exact fin _
  rintro acc h ⟨cs, rfl, hc, rfl⟩
  refine ⟨rfl, ?_⟩
  rw [Nat.zero_add, List.length_map] at hc
  have hcl : cs.length ≤ 63 := by omega
  try dsimp only [List.set_cons_zero, List.set_cons_succ]
  refine o_lst (by rw [List.length_map]; omega) ?_
  refine FF.x_acons ?_
  refine FF.x_bin ?_
  refine FF.x_const ?_
  refine FF.x_bi ?_
  refine FF.x_acons ?_
  refine FF.x_var (by rfl) ?_
  refine FF.x_anil ?_
  refine FF.OkO.of rfl ?_
  refine FF.OkO.of rfl ?_
  refine FF.x_anil ?_
  refine FF.OkO.of rfl ?_
  refine FF.OkO.of rfl ?_
  refine FF.nxt_nx ?_
  try dsimp only [List.set_cons_zero, List.set_cons_succ]
  refine FF.x_cons ?_
  refine FF.x_for ?_
  refine FF.x_iex ?_
  refine FF.x_var (by rfl) ?_
  refine FF.OkO.of rfl ?_
  try dsimp only [List.set_cons_zero, List.set_cons_succ]
  refine wp_loopF (fun k s h => ∃ (st : Int) (d3 : Option D), s = [some (.scr ns), some (.lst (cs.map .int)), some (.int st), d3] ∧ h = [] ∧ 0 ≤ st ∧ st < 4294967296) _ 0 _ _ ⟨_, _, rfl, rfl, by omega, by rw [List.length_map]; omega⟩ ?_ ?_
  · rintro i d s h e ⟨st, d3, rfl, rfl, s0, s1⟩
    obtain ⟨z, _, rfl⟩ := ints_get e
    refine ⟨rfl, ?_⟩
    refine FF.x_stepL ?_
    refine FF.OkO.of rfl ?_
    refine FF.x_cons ?_
    refine FF.x_set ?_
    refine FF.x_bin ?_
    refine FF.x_bi ?_
    refine FF.x_acons ?_
    refine FF.x_bin ?_
    refine FF.x_bin ?_
    refine FF.x_var (by rfl) ?_
    refine FF.x_const ?_
    try dsimp only [List.set_cons_zero, List.set_cons_succ]
    refine o_mul (mulOk_r (by decide) (by decide)) ?_
    refine FF.x_var (by rfl) ?_
    refine FF.OkO.of rfl ?_
    refine FF.x_anil ?_
    refine FF.OkO.of rfl ?_
    refine FF.x_const ?_
    refine FF.OkO.of rfl ?_
    refine FF.OkO.of rfl ?_
    refine FF.nxt_nx ?_
    try dsimp only [List.set_cons_zero, List.set_cons_succ]
    refine FF.x_nil ?_
    try dsimp only [List.set_cons_zero, List.set_cons_succ]
    exact ⟨_, _, rfl, rfl, Int.emod_nonneg _ (by decide), Int.lt_trans (Int.emod_lt_of_pos _ (by decide)) (by decide)⟩
  rintro s h ⟨st, d3, rfl, rfl, s0, s1⟩
  refine ⟨rfl, ?_⟩
  refine FF.nxt_nx ?_
  try dsimp only [List.set_cons_zero, List.set_cons_succ]
  refine FF.x_cons ?_
  refine FF.x_ret ?_
  refine FF.x_lst ?_
  refine FF.x_acons ?_
  refine FF.x_comp ?_
  refine FF.x_iex ?_
  refine FF.x_var (by rfl) ?_
  refine FF.OkO.of rfl ?_
  try dsimp only [List.set_cons_zero, List.set_cons_succ]
  refine wp_turns (fun k acc h => ∃ ds : List Int, acc = ds.map .int ∧ ds.length ≤ k ∧ h = []) _ 0 _ _ ⟨[], rfl, Nat.le_refl _, rfl⟩ ?_ ?_
  · rintro i d acc h e ⟨ds, rfl, hd, rfl⟩
    obtain ⟨z, _, rfl⟩ := ints_get e
    have hi := (List.getElem?_eq_some_iff.mp e).1
    rw [List.length_map] at hi
    refine ⟨rfl, by rw [List.length_map]; omega, ?_⟩
    refine FF.x_stepC ?_
    refine FF.OkO.of rfl ?_
    refine FF.x_if1 ?_
    refine FF.x_cmp ?_
    refine FF.x_var (by rfl) ?_
    refine FF.x_bin ?_
    refine FF.x_const ?_
    refine FF.x_const ?_
    refine FF.OkO.of rfl ?_
    refine FF.OkO.of rfl ?_
    refine FF.OkO.of rfl ?_
    try dsimp only [List.set_cons_zero, List.set_cons_succ]
    refine ⟨fun c => ?_, fun c => ?_⟩
    · refine FF.x_var (by rfl) ?_
      try dsimp only [List.set_cons_zero, List.set_cons_succ]
      exact ⟨ds ++ [z], by rw [List.map_append]; rfl, by rw [List.length_append]; simp; omega, rfl⟩
    · try dsimp only [List.set_cons_zero, List.set_cons_succ]
      exact ⟨ds, rfl, by omega, rfl⟩
  rintro acc h ⟨ds, rfl, hd, rfl⟩
  rw [Nat.zero_add, List.length_map] at hd
  refine ⟨rfl, ?_⟩
  refine o_new (by rw [List.length_map]; omega) ?_
  refine FF.x_acons ?_
  refine FF.x_var (by rfl) ?_
  refine FF.x_acons ?_
  refine FF.x_const ?_
  refine FF.x_anil ?_
  refine FF.OkO.of rfl ?_
  refine FF.nxt_rt ?_
  try dsimp only [List.set_cons_zero, List.set_cons_succ]
  refine FF.end_rt ?_
  try dsimp only [List.set_cons_zero, List.set_cons_succ]
  exact ⟨rfl, ⟨ds, st, 0⟩, rfl, by simp; omega, s0, s1⟩
theorem lroom_ok {φ : Fn} (hu : UpOk (φ 61)) : RoomOk (runDef φ R_lroom) := by
  intro k h hk
  refine pure_def rfl rfl rfl rfl ?_
  refine FF.x_cons ?_
  refine FF.x_ret ?_
  refine FF.x_call ?_
  refine FF.x_acons ?_
  refine FF.x_ix ?_
  refine FF.x_var (by rfl) ?_
  refine FF.x_const ?_
  refine FF.OkO.of rfl ?_
  refine FF.x_acons ?_
  refine FF.x_ix ?_
  refine FF.x_var (by rfl) ?_
  refine FF.x_const ?_
  refine FF.OkO.of rfl ?_
  refine FF.x_anil ?_
  try dsimp only [List.set_cons_zero, List.set_cons_succ]
  refine (hu _ _ _ hk.a0 hk.a1).mono ?_
  rintro _ rfl
  refine FF.nxt_rt ?_
  try dsimp only [List.set_cons_zero, List.set_cons_succ]
  refine FF.end_rt ?_
  try dsimp only [List.set_cons_zero, List.set_cons_succ]
  exact thaw1_pure rfl
def LackOk (f : List D → Hq → R (D × Hq)) : Prop := ∀ (k : Int × Int) (h : Hq), Kind k → Wp (f [kindD k] h) fun p => p = (.int (lackI k), h)
theorem llack_ok {φ : Fn} (hr : RoomOk (φ 62)) : LackOk (runDef φ R_llack) := by
  intro k h hk
  refine pure_def rfl rfl rfl rfl ?_
  refine FF.x_cons ?_
  refine FF.x_ret ?_
  refine FF.x_bin ?_
  refine FF.x_call ?_
  refine FF.x_acons ?_
  refine FF.x_var (by rfl) ?_
  refine FF.x_anil ?_
  try dsimp only [List.set_cons_zero, List.set_cons_succ]
  refine (hr k _ hk).mono ?_
  rintro _ rfl
  refine FF.x_ix ?_
  refine FF.x_var (by rfl) ?_
  refine FF.x_const ?_
  refine FF.OkO.of rfl ?_
  refine FF.OkO.of rfl ?_
  refine FF.nxt_rt ?_
  try dsimp only [List.set_cons_zero, List.set_cons_succ]
  refine FF.end_rt ?_
  try dsimp only [List.set_cons_zero, List.set_cons_succ]
  exact thaw1_pure rfl
end FF

/-! FFPool: the pools of the laws of floors and least wholes. -/
namespace FF
open PySem PySem.Spec L2
/-! ### kinds, books, records -/
abbrev IntsIn (ok : Int → Prop) : D → Prop := fun x => ∃ ns : List Int, x = .lst (ns.map .int) ∧ ns ≠ [] ∧ ns.length ≤ 100 ∧ ∀ n ∈ ns, ok n
abbrev RecsIn (many : Nat) : D → Prop := fun x => ∃ ms : List Int, x = rowD ms ∧ ms.length = many ∧ (∃ m ∈ ms, 0 < m) ∧ ∀ m ∈ ms, 0 ≤ m ∧ m ≤ T30
end FF

/-! FFFloor: floors and shares, by the package's defs and the laws' own. -/
namespace FF
open PySem PySem.Spec L2
def pw (k : Int × Int) : Int := powI (roomI k)
theorem pw_bd {k : Int × Int} (hk : Kind k) : k.2 ≤ pw k ∧ pw k ≤ 2000000000000000000000000000000 := by
  have q := room_lt hk
  have := room_bd hk
  have := hk.s1; have := hk.a1
  have l := powI_le q.1
  unfold pw T30 at *
  exact ⟨powI_ge hk.ap q.1 (room_dvd hk), by omega⟩
theorem least_bd {l : List (Int × Int)} (h : ∀ k ∈ l, Kind k) (h0 : 0 < l.length) : 1 ≤ minL (l.map pw) ∧ minL (l.map pw) ≤ 2000000000000000000000000000000 := by
  obtain ⟨k, hk, e⟩ := List.mem_map.mp (minL_mem (l := l.map pw) (by rw [List.length_map]; exact h0))
  have := pw_bd (h k hk)
  have := (h k hk).a0
  omega
/-- the least power of the kinds with fields -/
def leastI (b : List (Int × Int)) (ms : List Int) : Int := minL ((withF b ms).map pw)
theorem leastI_bd {b : List (Int × Int)} {ms : List Int} (hb : BookOk b) (hm : RecOk b ms) : 1 ≤ leastI b ms ∧ leastI b ms ≤ 2000000000000000000000000000000 := least_bd (fun k hk => hb.kinds k (withF_kind hk)) (withF_some hm.len hm.some')
/-! ### the floor -/
def mn (a l : Int) : Int := if l < a then l else a
def numAt (ms : List Int) (z : Int) : Int := ms.getD z.toNat 0
def addF (b : List (Int × Int)) (ms : List Int) (l : Int) (t z : Int) : Int := t + numAt ms z * upI (kindAt b z).1 (mn (kindAt b z).2 l)
def floorS (b : List (Int × Int)) (ms : List Int) : Int := (placesI ms).foldl (addF b ms (leastI b ms)) 0
def floorI (b : List (Int × Int)) (ms : List Int) : Int := upI (floorS b ms) (recStep b ms)
theorem places_ok2 {b : List (Int × Int)} {ms : List Int} (hm : RecOk b ms) {z : Int} (h : z ∈ placesI ms) : (0 ≤ z ∧ z < b.length) ∧ 0 ≤ z ∧ z < ms.length := by
  have := places_in h
  have := hm.len
  omega
/-! ### shares -/
end FF

/-! FFLeast: the least ends, by the defs. -/
namespace FF
open PySem PySem.Spec L2
def prodP (ms : List Int) : Int := ms.foldl (fun t n => t * (n + 1)) 1
structure Few (ms : List Int) : Prop where
  nat : ∀ x ∈ ms, 0 ≤ x
  sum : ms.sum ≤ 100
  prod : prodP ms ≤ 256
  len : ms.length ≤ 1000
theorem sum_ge : ∀ {ms : List Int} {x : Int}, (∀ x ∈ ms, 0 ≤ x) → x ∈ ms → x ≤ ms.sum
  | [], _, _, h => by cases h
  | y :: ms, x, hn, h => by
    have y0 := hn y List.mem_cons_self
    have s0 := (sum_pos fun z hz => hn z (List.mem_cons_of_mem _ hz)).1
    rw [List.sum_cons]
    rcases List.mem_cons.mp h with rfl | h
    · omega
    · have := sum_ge (fun z hz => hn z (List.mem_cons_of_mem _ hz)) h; omega
/-! ### all parts -/
/-! ### a field less, a field behind an end -/
theorem cut_toR {ns : List Int} {j : Nat} (h : j ≤ ns.length) : cut (ns.map D.int) none (some (j : Int)) = (ns.take j).map D.int := by rw [cut_to (by rw [List.length_map]; exact h), List.map_take]
theorem cut_fromR {ns : List Int} {j : Nat} (h : j < ns.length) : cut (ns.map D.int) (some ((j : Int) + 1)) none = (ns.drop (j + 1)).map D.int := by
  rw [show ((j : Int) + 1) = ((j + 1 : Nat) : Int) by omega, cut_from (by rw [List.length_map]; omega), List.map_drop]
theorem at_row {ns : List Int} {j : Nat} (h : j < ns.length) : at? (ns.map D.int) (j : Int) = some (.int (ns.getD j 0)) := by
  unfold at?
  refine atI_nat (j := j) ?_
  rw [List.getElem?_map, List.getD_eq_getElem?_getD, List.getElem?_eq_getElem h]; rfl
theorem less_row {p : List Int} {j : Nat} (h : j < p.length) : D.tup ((p.take j).map D.int ++ [D.int (p.getD j 0 - 1)] ++ (p.drop (j + 1)).map D.int) = rowD (lessP p j) := by
  rw [← less_cut h]
  unfold rowD
  rw [List.map_append, List.map_append]; rfl
/-! ### the least ends -/
/-! ### the least row -/
/-! ### by the laws' own -/
end FF

/-! FFFew: records of few fields, drawn; all their rows. -/
namespace FF
open PySem PySem.Spec L2
theorem o_mulLF {F : Fam} {s : F.S} {rest : Hq} {i : List D} {k : Int} {P : D × Hq → Prop} (h0 : -(2 ^ 63) ≤ k) (h1 : k < 2 ^ 63) (hl : i.length * k.toNat ≤ 16777216) (p : P (.ref (rest.length + F.n), F.h s (rest ++ [.lst (List.replicate k.toNat i).flatten]))) : OkO (binop .Mult true (.lst i) (.int k) (F.h s rest)) P := by
  refine ⟨_, ?_, p⟩
  have hl2 : (List.replicate k.toNat i).flatten.length ≤ 16777216 := by rw [PyProof.Rows.lm_len_rep_flat, Nat.mul_comm]; exact hl
  show (if -(2 ^ 63) ≤ k ∧ k < 2 ^ 63 ∧ lineOk (i.length * k.toNat) = true then mkL true (List.replicate k.toNat i).flatten (F.h s rest) else none) = _
  rw [if_pos ⟨h0, h1, decide_eq_true hl⟩]
  unfold mkL
  rw [show lineOk (List.replicate k.toNat i).flatten.length = true from decide_eq_true hl2]
  show some (D.ref (F.h s rest).length, F.h s rest ++ _) = _
  rw [fh_len, fh_app]
theorem set_sum {ms : List Int} {j : Nat} (h : j < ms.length) : (ms.set j (ms.getD j 0 + 1)).sum = ms.sum + 1 := by
  induction ms generalizing j with
  | nil => simp at h
  | cons a ms ih =>
    cases j with
    | zero => show (a + 1) + ms.sum = a + ms.sum + 1; omega
    | succ j =>
      have := ih (j := j) (by simpa using h)
      show a + (ms.set j (ms.getD j 0 + 1)).sum = a + ms.sum + 1
      omega
theorem sum_rep0 : ∀ n : Nat, (List.replicate n (0 : Int)).sum = ((0 : Nat) : Int)
  | 0 => rfl
  | n + 1 => by rw [List.replicate_succ, List.sum_cons, sum_rep0 n]; rfl
/-! ### rows, by the laws' own -/
/-! ### all rows with just some fields -/
abbrev RR := List Int × List Int
def rowsStep (found : List RR) : List RR := found.flatMap fun p => (placesI p.2).map fun z => (p.1 ++ [z], lessP p.2 z.toNat)
def rowsN (ms : List Int) : Nat → List RR
  | 0 => [([], ms)]
  | n + 1 => rowsStep (rowsN ms n)
def rowsOf (ms : List Int) : List (List Int) := (rowsN ms ms.sum.toNat).map (·.1)
theorem rowsN_len (ms : List Int) : ∀ n : Nat, (rowsN ms n).length ≤ ms.length ^ n ∧ ∀ p ∈ rowsN ms n, p.2.length = ms.length ∧ p.1.length = n
  | 0 => ⟨Nat.le_refl 1, fun p hp => by rw [rowsN, List.mem_singleton] at hp; subst hp; exact ⟨rfl, rfl⟩⟩
  | n + 1 => by
    obtain ⟨h1, h2⟩ := rowsN_len ms n
    rw [rowsN]
    refine ⟨?_, fun p hp => ?_⟩
    · unfold rowsStep
      rw [List.length_flatMap, Nat.pow_succ]
      have : ∀ l : List RR, (∀ p ∈ l, p.2.length = ms.length) → (l.map fun p => ((placesI p.2).map fun z => ((p.1 ++ [z], lessP p.2 z.toNat) : RR)).length).sum ≤ l.length * ms.length := by
        intro l
        induction l with
        | nil => intro _; simp
        | cons p l ih =>
          intro hl
          have pl := places_len p.2
          rw [hl p List.mem_cons_self] at pl
          rw [List.map_cons, List.sum_cons, List.length_cons, Nat.add_mul, List.length_map]
          have := ih fun q hq => hl q (List.mem_cons_of_mem _ hq)
          omega
      exact Nat.le_trans (this _ fun p hp => (h2 p hp).1) (Nat.mul_le_mul_right _ h1)
    · unfold rowsStep at hp
      obtain ⟨q, hq, hp⟩ := List.mem_flatMap.mp hp
      obtain ⟨z, hz, rfl⟩ := List.mem_map.mp hp
      obtain ⟨q1, q2⟩ := h2 q hq
      exact ⟨by rw [less_len]; exact q1, by rw [List.length_append, q2]; rfl⟩
/-! what stands in them -/
theorem rowsN_sound {b : List (Int × Int)} {ms : List Int} (hl : ms.length = b.length) (hn : ∀ m ∈ ms, 0 ≤ m) : ∀ n : Nat, ∀ p ∈ rowsN ms n, (∀ z ∈ p.1, 0 ≤ z ∧ z < b.length) ∧ (∀ x ∈ p.2, 0 ≤ x) ∧ p.2.length = b.length ∧ p.2.sum + n = ms.sum ∧ ∀ j : Nat, j < b.length → cnt p.1 j + p.2.getD j 0 = ms.getD j 0
  | 0, p, hp => by
    rw [rowsN, List.mem_singleton] at hp; subst hp
    exact ⟨(fun z hz => by cases hz), hn, hl, (by simp), (fun j _ => by rw [cnt_nil]; dsimp only; omega)⟩
  | n + 1, p, hp => by
    rw [rowsN] at hp
    unfold rowsStep at hp
    obtain ⟨q, hq, hp⟩ := List.mem_flatMap.mp hp
    obtain ⟨z, hz, rfl⟩ := List.mem_map.mp hp
    obtain ⟨q1, q2, q3, q4, q5⟩ := rowsN_sound hl hn n q hq
    obtain ⟨j, rfl, j1, j2⟩ := places_nat hz
    rw [Int.toNat_natCast]
    refine ⟨fun y hy => ?_, less_nat q2 j2, by rw [less_len]; exact q3, by rw [less_sum j1]; omega, fun i hi => ?_⟩
    · rcases List.mem_append.mp hy with hy | hy
      · exact q1 y hy
      · rw [List.mem_singleton] at hy; subst hy; omega
    · have := q5 i hi
      rw [cnt_app, cnt_cons, cnt_nil]
      unfold lessP
      rw [List.getD_eq_getElem?_getD, List.getElem?_set]
      by_cases c : j = i
      · subst c
        rw [if_pos rfl, if_pos rfl, if_pos j1]
        simp only [Option.getD_some]
        omega
      · rw [if_neg c, if_neg (by omega), ← List.getD_eq_getElem?_getD]
        omega
theorem num_eq_of {b : List (Int × Int)} {row ms : List Int} (hl : ms.length = b.length) (h : ∀ j : Nat, j < b.length → cnt row j = ms.getD j 0) : numI b row = ms := by
  refine List.ext_getElem (by rw [num_len, hl]) fun i h1 h2 => ?_
  have hi : i < b.length := by omega
  have := num_getD (b := b) (r := row) hi
  rw [List.getD_eq_getElem?_getD, List.getElem?_eq_getElem h1] at this
  have e := h i hi
  rw [List.getD_eq_getElem?_getD, List.getElem?_eq_getElem h2] at e
  simp only [Option.getD_some] at this e
  rw [this, e]
theorem rows_sound {b : List (Int × Int)} {ms : List Int} (hl : ms.length = b.length) (hn : ∀ m ∈ ms, 0 ≤ m) {row : List Int} (h : row ∈ rowsOf ms) : numI b row = ms ∧ (row.length : Int) = ms.sum ∧ ∀ z ∈ row, 0 ≤ z ∧ z < b.length := by
  unfold rowsOf at h
  obtain ⟨p, hp, rfl⟩ := List.mem_map.mp h
  have s0 := (sum_pos hn).1
  obtain ⟨q1, q2, q3, q4, q5⟩ := rowsN_sound hl hn _ p hp
  have pl := ((rowsN_len ms _).2 p hp).2
  have z0 : p.2.sum = 0 := by omega
  have pz : ∀ j : Nat, j < p.2.length → p.2.getD j 0 = 0 := by
    intro j hj
    have h1 : 0 ≤ p.2.getD j 0 := by
      rw [List.getD_eq_getElem?_getD, List.getElem?_eq_getElem hj]
      exact q2 _ (List.getElem_mem hj)
    by_cases c : 0 < p.2.getD j 0
    · have : placesI p.2 ≠ [] := fun e => by
        have := places_mem.mpr ⟨hj, c⟩
        rw [e] at this; cases this
      have := (sum_pos q2).2.mpr this
      omega
    · omega
  refine ⟨num_eq_of hl fun j hj => ?_, by omega, q1⟩
  have := q5 j hj
  rw [pz j (by omega)] at this
  omega
theorem rowsN_all {b : List (Int × Int)} : ∀ (pre suf : List Int), (∀ z ∈ pre ++ suf, 0 ≤ z ∧ z < b.length) → (pre, numI b suf) ∈ rowsN (numI b (pre ++ suf)) pre.length := by
  intro pre
  induction h : pre.length generalizing pre with
  | zero =>
    intro suf _
    have : pre = [] := List.length_eq_zero_iff.mp h
    subst this
    exact List.mem_singleton.mpr rfl
  | succ n ih =>
    intro suf hr
    obtain ⟨r, z, rfl⟩ : ∃ r z, pre = r ++ [z] := by
      have hne : pre ≠ [] := fun z => by rw [z] at h; simp at h
      exact ⟨_, _, (List.dropLast_concat_getLast hne).symm⟩
    have hr' : ∀ y ∈ r ++ (z :: suf), 0 ≤ y ∧ y < b.length := fun y hy => hr y (by simpa using hy)
    have q := ih r (by simpa using h) (z :: suf) hr'
    rw [show r ++ [z] ++ suf = r ++ z :: suf by simp]
    rw [rowsN]
    unfold rowsStep
    obtain ⟨z0, z1⟩ := hr' z (by simp)
    obtain ⟨j, rfl⟩ := Int.eq_ofNat_of_zero_le z0
    have jb : j < b.length := by omega
    have e1 : numI b ((j : Int) :: suf) = numI b (suf ++ [(j : Int)]) := numI_perm (List.perm_append_singleton _ _).symm b
    refine List.mem_flatMap.mpr ⟨_, q, List.mem_map.mpr ⟨(j : Int), ?_, ?_⟩⟩
    · refine places_mem.mpr ⟨by rw [num_len]; exact jb, ?_⟩
      rw [num_getD jb, cnt_cons, if_pos rfl]
      have := (cnt_bd suf j).1
      omega
    · dsimp only
      rw [Int.toNat_natCast, e1, num_less jb]
abbrev WideIn : D → Prop := fun x => ∃ ms : List Int, x = rowD ms ∧ 0 < ms.length ∧ ms.length ≤ 6 ∧ 1 ≤ ms.sum ∧ Few ms
end FF

/-! FFNeed: fields that are needed. -/
namespace FF
open PySem PySem.Spec L2
/-! ### the first number that goes -/
def goesN (r g a : Int) (n : Nat) : Bool := ((n : Int) * r - g) % a == 0
def first (r g a : Int) : Nat := ((List.range 64).find? (goesN r g a)).getD 64
theorem first_of {r g a : Int} {m : Nat} (hm : m < 64) (c : goesN r g a m = true) (h : ∀ j, j < m → goesN r g a j = false) : first r g a = m := by
  unfold first
  have : (List.range 64).find? (goesN r g a) = some m := List.find?_range_eq_some.mpr ⟨c, List.mem_range.mpr hm, fun j hj => by rw [h j hj]; rfl⟩
  rw [this]; rfl
theorem first_zero {r a : Int} : first r 0 a = 0 := first_of (by decide) (by simp [goesN]) fun j hj => absurd hj (Nat.not_lt_zero j)
theorem p2_odd (n : Nat) (h : 0 < n) : ∃ o, n = p2 n * o ∧ o % 2 = 1 := by
  induction n using Nat.strongRecOn with
  | _ n ih =>
    by_cases c : n % 2 = 0
    · obtain ⟨o, e, q⟩ := ih (n / 2) (by omega) (by omega)
      refine ⟨o, ?_, q⟩
      rw [p2, if_pos ⟨h, c⟩, Nat.mul_assoc, ← e]; omega
    · refine ⟨n, ?_, by omega⟩
      rw [p2, if_neg (by omega), Nat.one_mul]
theorem inv64 : ∀ o : Fin 64, o.val % 2 = 1 → ∃ i : Fin 64, (i.val * o.val) % 64 = 1 := by decide +kernel
theorem odd_goes (o : Nat) (h : o % 2 = 1) (g : Int) : ∃ n : Nat, n < 64 ∧ (64 : Int) ∣ ((n : Int) * o - g) := by
  obtain ⟨i, hi⟩ := inv64 ⟨o % 64, Nat.mod_lt _ (by decide)⟩ (by show o % 64 % 2 = 1; omega)
  have hi : (i.val * (o % 64)) % 64 = 1 := hi
  have m0 := Int.emod_nonneg ((i.val : Int) * g) (show (64 : Int) ≠ 0 by decide)
  have m1 := Int.emod_lt_of_pos ((i.val : Int) * g) (show (0 : Int) < 64 by decide)
  refine ⟨(((i.val : Int) * g) % 64).toNat, by omega, ?_⟩
  rw [Int.toNat_of_nonneg m0]
  refine Int.dvd_of_emod_eq_zero ?_
  have e1 : ((i.val : Int) * o) % 64 = 1 := by
    have : (i.val * o) % 64 = 1 := by rw [Nat.mul_mod, ← Nat.mul_mod_mod] at *; simpa [Nat.mul_mod] using hi
    omega
  have e2 : (((i.val : Int) * g) % 64 * o - g) % 64 = ((i.val : Int) * g * o - g) % 64 := by
    rw [Int.sub_emod, Int.mul_emod, Int.emod_emod_of_dvd _ (Int.dvd_refl 64), ← Int.mul_emod, ← Int.sub_emod]
  rw [e2, show (i.val : Int) * g * o - g = g * ((i.val : Int) * o - 1) by rw [Int.mul_sub, Int.mul_one, Int.mul_comm (i.val : Int) g, Int.mul_assoc]]
  have : ((i.val : Int) * o - 1) % 64 = 0 := by omega
  rw [Int.mul_emod, this, Int.mul_zero]; rfl
theorem goes_some {r L g a : Int} (hr : 0 < r) (hL : powI r = L) (ha : Pow2 a) : ∃ n, n < 64 ∧ goesN r (L * g) a n = true := by
  obtain ⟨o, e, q⟩ := p2_odd r.toNat (by omega)
  obtain ⟨n, h1, h2⟩ := odd_goes o q g
  refine ⟨n, h1, ?_⟩
  have er : r = L * (o : Int) := by
    obtain ⟨k, rfl⟩ := Int.eq_ofNat_of_zero_le (show 0 ≤ r by omega)
    rw [← hL]
    unfold powI
    rw [Int.toNat_natCast] at e ⊢
    rw [← Int.natCast_mul, ← e]
  have e3 : (n : Int) * r - L * g = L * ((n : Int) * o - g) := by rw [er, Int.mul_sub, Int.mul_left_comm]
  have d : a ∣ (n : Int) * r - L * g := by
    rw [e3]
    have : a ∣ 64 := by unfold Pow2 at ha; rcases ha with rfl | rfl | rfl | rfl | rfl | rfl | rfl <;> decide
    exact Int.dvd_trans (Int.dvd_trans this h2) (Int.dvd_mul_left _ _)
  unfold goesN
  rw [Int.emod_eq_zero_of_dvd d]; rfl
/-- how many of a fine kind stand behind each field of a kind -/
def behind (b : List (Int × Int)) (L z f : Int) : Nat := first (roomI (kindAt b f)) (L * (lackI (kindAt b z) / L)) (alI b z)
theorem first_bd {r L g a : Int} (hr : 0 < r) (hL : powI r = L) (ha : Pow2 a) : first r (L * g) a < 64 ∧ goesN r (L * g) a (first r (L * g) a) = true ∧ ∀ j, j < first r (L * g) a → goesN r (L * g) a j = false := by
  obtain ⟨n, h1, h2⟩ := goes_some (g := g) hr hL ha
  cases e : (List.range 64).find? (goesN r (L * g) a) with
  | none =>
    have := List.find?_eq_none.mp e n (List.mem_range.mpr h1)
    exact absurd h2 this
  | some m =>
    obtain ⟨c, hm, hj⟩ := List.find?_range_eq_some.mp e
    have ef : first r (L * g) a = m := by unfold first; rw [e]; rfl
    rw [ef]
    exact ⟨List.mem_range.mp hm, c, fun j q => by simpa using hj j q⟩
theorem lack_bd {k : Int × Int} (hk : Kind k) : 0 ≤ lackI k ∧ lackI k < 64 := by
  have := room_bd hk
  have := hk.a1
  unfold lackI
  omega
structure FineOk (b : List (Int × Int)) (L z f : Int) : Prop where
  hz : 0 ≤ z ∧ z < b.length
  hf : 0 ≤ f ∧ f < b.length
  pow : pw (kindAt b f) = L
  l1 : 1 ≤ L
  l2 : L ≤ 2000000000000000000000000000000
/-! ### sums over the fields -/
/-- how many fields of a fine kind are needed -/
def needN (b : List (Int × Int)) (ms : List Int) (L f : Int) : Int := ((placesI ms).map fun z => numAt ms z * behind b L z f).sum
/-- the finest kinds with fields -/
def fineL (b : List (Int × Int)) (ms : List Int) : List Int := (placesI ms).filterMap fun z => if pw (kindAt b z) = leastI b ms then some z else none
def neededI (b : List (Int × Int)) (ms : List Int) : List (Int × Int) := (fineL b ms).map fun f => (f, needN b ms (leastI b ms) f)
end FF

/-! FFEven: level books of a pool, their floors. -/
namespace FF
open PySem PySem.Spec L2
/-- M: a power of 2 -/
def PowM (M : Int) : Prop := ∃ k : Nat, M = ((2 ^ k : Nat) : Int)
theorem powM_of {a : Int} (h : Pow2 a) : PowM a := pow2_exp h
theorem powM_pos {M : Int} (h : PowM M) : 1 ≤ M := by
  obtain ⟨k, rfl⟩ := h
  have := Nat.pow_pos (n := k) (show 0 < 2 by decide)
  omega
theorem powM_dvd {a b : Int} (ha : PowM a) (hb : PowM b) (h : a ≤ b) : a ∣ b := by
  obtain ⟨i, rfl⟩ := ha
  obtain ⟨j, rfl⟩ := hb
  have : 2 ^ i ≤ 2 ^ j := by omega
  exact Int.natCast_dvd_natCast.mpr (Nat.pow_dvd_pow 2 ((Nat.pow_le_pow_iff_right (by decide)).mp this))
theorem powM_pw (n : Int) : PowM (powI n) := by
  obtain ⟨k, e⟩ := p2_pow n.toNat
  exact ⟨k, by unfold powI; rw [e]⟩
theorem powI_geM {M n : Int} (h : PowM M) (hn : 0 < n) (d : M ∣ n) : M ≤ powI n := by
  obtain ⟨k, rfl⟩ := h
  obtain ⟨m, rfl⟩ := Int.eq_ofNat_of_zero_le (show 0 ≤ n by omega)
  have d := Int.natCast_dvd_natCast.mp d
  have := Nat.le_of_dvd (p2_pos m) (p2_ge k m (by omega) d)
  unfold powI
  rw [Int.toNat_natCast]
  omega
structure LevelBy (M : Int) (b : List (Int × Int)) : Prop where
  pow : PowM M
  room : ∀ k ∈ b, M ∣ roomI k
  lack : ∀ k ∈ b, lackI k < M
theorem level_least {M : Int} {b l : List (Int × Int)} (hb : ∀ k ∈ b, Kind k) (h : LevelBy M b) (hl : ∀ k ∈ l, k ∈ b) (l0 : 0 < l.length) : M ≤ minL (l.map pw) ∧ PowM (minL (l.map pw)) ∧ ∀ k ∈ l, minL (l.map pw) ∣ roomI k := by
  obtain ⟨k, hk, e⟩ := List.mem_map.mp (minL_mem (l := l.map pw) (by rw [List.length_map]; exact l0))
  have kb := hl k hk
  have q := room_lt (hb k kb)
  have pm : PowM (minL (l.map pw)) := e ▸ powM_pw (roomI k)
  refine ⟨by rw [← e]; exact powI_geM h.pow q.1 (h.room k kb), pm, fun y hy => ?_⟩
  have qy := room_lt (hb y (hl y hy))
  have le := minL_le (l := l.map pw) (List.mem_map.mpr ⟨y, hy, rfl⟩)
  exact Int.dvd_trans (powM_dvd pm (powM_pw _) le) (powI_dvd qy.1)
theorem up_eq {n L r : Int} (h : 1 ≤ L) (d : L ∣ r) (h1 : n ≤ r) (h2 : r - n < L) : upI n L = r := by
  have le := upI_least h d h1
  have dv := upI_dvd (n := n) h
  obtain ⟨x, ex⟩ := d
  obtain ⟨y, ey⟩ := dv
  have hl : n ≤ upI n L := by
    unfold upI
    have := Int.emod_nonneg (0 - n) (show L ≠ 0 by omega)
    omega
  have hxy : L * (x - y) = r - upI n L := by rw [Int.mul_sub]; omega
  by_cases c : x ≤ y
  · have : L * x ≤ L * y := Int.mul_le_mul_of_nonneg_left c (by omega)
    omega
  · have : L * 1 ≤ L * (x - y) := Int.mul_le_mul_of_nonneg_left (by omega) (by omega)
    omega
/-- in a level book what is rounded up by the least power is the room -/
theorem up_level {M : Int} {b : List (Int × Int)} {ms : List Int} (hb : BookOk b) (h : LevelBy M b) (hm : RecOk b ms) {k : Int × Int} (hk : k ∈ withF b ms) : upI k.1 (mn k.2 (leastI b ms)) = roomI k := by
  obtain ⟨l1, l2, l3⟩ := level_least hb.kinds h (fun k hk => withF_kind hk) (withF_some hm.len hm.some')
  have kb := withF_kind hk
  have r := room_bd (hb.kinds k kb)
  have lk := h.lack k kb
  unfold mn
  split
  · unfold lackI at lk
    unfold leastI
    exact up_eq (powM_pos l2) (l3 k hk) r.1 (by omega)
  · rfl
theorem foldl_addF {b : List (Int × Int)} {ms : List Int} {L : Int} : ∀ (zs : List Int) (t : Int), zs.foldl (addF b ms L) t = t + (zs.map fun z => numAt ms z * upI (kindAt b z).1 (mn (kindAt b z).2 L)).sum
  | [], t => by simp
  | z :: zs, t => by
    rw [List.foldl_cons, foldl_addF zs, List.map_cons, List.sum_cons]
    unfold addF
    omega
theorem sum_pos_zip : ∀ (b : List (Int × Int)) (ms : List Int) (j : Nat) (B : List (Int × Int)) (N : List Int), B.drop j = b → N.drop j = ms → ms.length = b.length → (∀ m ∈ ms, 0 ≤ m) →
    (((ms.zipIdx j).filterMap fun p => if 0 < p.1 then some (p.2 : Int) else none).map fun z => numAt N z * roomI (kindAt B z)).sum = ((b.zip ms).map fun p => roomI p.1 * p.2).sum
  | [], [], _, _, _, _, _, _, _ => by simp
  | [], _ :: _, _, _, _, _, _, l, _ => by simp at l
  | _ :: _, [], _, _, _, _, _, l, _ => by simp at l
  | k :: b, m :: ms, j, B, N, eB, eN, l, hn => by
    have ih := sum_pos_zip b ms (j + 1) B N (by rw [← List.tail_drop, eB]; rfl) (by rw [← List.tail_drop, eN]; rfl) (by simpa using l) fun x hx => hn x (List.mem_cons_of_mem _ hx)
    have ek : B[j]? = some k := by have := congrArg (fun l => l[0]?) eB; simpa using this
    have em : N[j]? = some m := by have := congrArg (fun l => l[0]?) eN; simpa using this
    have e1 : numAt N (j : Int) = m := by unfold numAt; rw [Int.toNat_natCast, List.getD_eq_getElem?_getD, em]; rfl
    have e2 := kindAt_nat ek
    have m0 := hn m List.mem_cons_self
    rw [List.zipIdx_cons, List.zip_cons_cons, List.filterMap_cons, List.map_cons, List.sum_cons]
    by_cases c : 0 < m
    · simp only [c, if_true, List.map_cons, List.sum_cons, ih, e1, e2, Int.mul_comm m]
    · have : m = 0 := by omega
      subst this
      simp only [c, if_false, ih]
      simp
theorem placesI_sum {b : List (Int × Int)} {ms : List Int} (hm : RecOk b ms) : ((placesI ms).map fun z => numAt ms z * roomI (kindAt b z)).sum = sumR b ms := sum_pos_zip b ms 0 b ms rfl rfl hm.len fun m h => (hm.nat m h).1
theorem place_with {b : List (Int × Int)} {ms : List Int} (hm : RecOk b ms) {z : Int} (hz : z ∈ placesI ms) : kindAt b z ∈ withF b ms := by
  rw [← places_with b ms (by rw [hm.len]; exact Nat.le_refl _)]
  exact List.mem_map.mpr ⟨z, hz, rfl⟩
/-- the floor of a level book -/
theorem floor_level {M : Int} {b : List (Int × Int)} {ms : List Int} (hb : BookOk b) (h : LevelBy M b) (hm : RecOk b ms) : floorI b ms = dueI b ms := by
  unfold floorI dueI floorS
  rw [foldl_addF, Int.zero_add, ← placesI_sum hm]
  congr 2
  refine List.map_inj_left.mpr fun z hz => ?_
  rw [up_level hb h hm (place_with hm hz)]
theorem need_level {M : Int} {b : List (Int × Int)} {ms : List Int} (hb : BookOk b) (h : LevelBy M b) (hm : RecOk b ms) : ∀ p ∈ neededI b ms, p.2 = 0 := by
  obtain ⟨l1, l2, l3⟩ := level_least hb.kinds h (fun k hk => withF_kind hk) (withF_some hm.len hm.some')
  intro p hp
  unfold neededI at hp
  obtain ⟨f, hf, rfl⟩ := List.mem_map.mp hp
  have z0 : ∀ z ∈ placesI ms, numAt ms z * (behind b (leastI b ms) z f : Int) = 0 := by
    intro z hz
    have kk := (kindAt_ok hb (places_ok2 hm hz).1).1
    have l := lack_bd kk
    have lk := h.lack _ (withF_kind (place_with hm hz))
    have e : behind b (leastI b ms) z f = 0 := by
      unfold behind
      rw [Int.ediv_eq_zero_of_lt l.1 (by unfold leastI; omega), Int.mul_zero]
      exact first_zero
    rw [e]; simp
  show needN b ms (leastI b ms) f = 0
  unfold needN
  have : ∀ zs : List Int, (∀ z ∈ zs, numAt ms z * (behind b (leastI b ms) z f : Int) = 0) → (zs.map fun z => numAt ms z * (behind b (leastI b ms) z f : Int)).sum = 0 := by
    intro zs
    induction zs with
    | nil => intro _; rfl
    | cons z zs ih => intro q; rw [List.map_cons, List.sum_cons, q z List.mem_cons_self, ih fun y hy => q y (List.mem_cons_of_mem _ hy)]; rfl
  exact this _ z0
/-! ### kinds in another order -/
structure Turned (b : List (Int × Int)) (ms : List Int) (zs : List Int) : Prop where
  perm : zs.Perm ((List.range b.length).map fun j : Nat => (j : Int))
theorem turned_in {b : List (Int × Int)} {zs : List Int} (h : zs.Perm ((List.range b.length).map fun j : Nat => (j : Int))) {z : Int} (hz : z ∈ zs) : 0 ≤ z ∧ z < b.length := by
  obtain ⟨j, hj, rfl⟩ := List.mem_map.mp (h.mem_iff.mp hz)
  have := List.mem_range.mp hj
  omega
/-! ### drawn -/
end FF

/-! FFReach: no row is below the floor; where fields are enough, one comes to it. -/
namespace FF
open PySem PySem.Spec L2
def fv (b : List (Int × Int)) (L z : Int) : Int := upI (kindAt b z).1 (mn (kindAt b z).2 L)
theorem foldl_sum {α : Type} (g : α → Int) : ∀ (l : List α) (t : Int), l.foldl (fun t z => t + g z) t = t + (l.map g).sum
  | [], t => by simp
  | a :: l, t => by rw [List.foldl_cons, foldl_sum g l, List.map_cons, List.sum_cons]; omega
theorem filter_sum (p g : Nat → Int) : ∀ l : List Nat, ((l.filterMap fun j => if 0 < p j then some (j : Int) else none).map fun z => p z.toNat * g z.toNat).sum = (l.map fun j => if 0 < p j then p j * g j else 0).sum
  | [] => rfl
  | a :: l => by
    rw [List.filterMap_cons, List.map_cons, List.sum_cons, ← filter_sum p g l]
    by_cases c : 0 < p a
    · rw [if_pos c, if_pos c]
      simp only [List.map_cons, List.sum_cons, Int.toNat_natCast]
    · rw [if_neg c, if_neg c]
      simp only [Int.zero_add]
theorem places_range (ms : List Int) : placesI ms = (List.range ms.length).filterMap fun j => if 0 < ms.getD j 0 then some (j : Int) else none := by
  have e : ms.zipIdx = (List.range ms.length).map fun j => (ms.getD j 0, j) := by
    refine List.ext_getElem (by simp) fun i h1 h2 => ?_
    rw [List.length_zipIdx] at h1
    rw [List.getElem_zipIdx, List.getElem_map, List.getElem_range, List.getD_eq_getElem?_getD, List.getElem?_eq_getElem h1]
    simp
  unfold placesI
  rw [e, List.filterMap_map]
  rfl
theorem kindAt_cast (b : List (Int × Int)) (z : Int) : kindAt b (z.toNat : Int) = kindAt b z := by
  unfold kindAt
  rw [Int.toNat_natCast]
/-- a sum over the places that are there is one over a row's fields -/
theorem sum_places {b : List (Int × Int)} {row : List Int} (G : Int → Int) (hG : ∀ z, G (z.toNat : Int) = G z) (hr : ∀ z ∈ row, 0 ≤ z ∧ z < b.length) : ((placesI (numI b row)).map fun z => numAt (numI b row) z * G z).sum = (row.map G).sum := by
  rw [places_range, num_len]
  have e1 : ((List.range b.length).filterMap fun j => if 0 < (numI b row).getD j 0 then some (j : Int) else none).map (fun z => numAt (numI b row) z * G z) = ((List.range b.length).filterMap fun j => if 0 < (numI b row).getD j 0 then some (j : Int) else none).map fun z => (fun j => (numI b row).getD j 0) z.toNat * (fun j : Nat => G (j : Int)) z.toNat := by
    refine List.map_congr_left fun z _ => ?_
    show (numI b row).getD z.toNat 0 * G z = (numI b row).getD z.toNat 0 * G (z.toNat : Int)
    rw [hG]
  rw [e1, filter_sum (fun j => (numI b row).getD j 0) (fun j : Nat => G (j : Int))]
  have e2 : (List.range b.length).map (fun j => if 0 < (numI b row).getD j 0 then (numI b row).getD j 0 * G (j : Int) else 0) = (List.range b.length).map fun j : Nat => G (j : Int) * cnt row j := by
    refine List.map_congr_left fun j hj => ?_
    have hj := List.mem_range.mp hj
    rw [num_getD hj]
    have := (cnt_bd row j).1
    by_cases c : 0 < cnt row j
    · rw [if_pos c, Int.mul_comm]
    · rw [if_neg c, show cnt row j = 0 by omega, Int.mul_zero]
  rw [e2, sum_cnt (fun j : Nat => G (j : Int)) b.length row hr]
  refine congrArg List.sum (List.map_congr_left fun z _ => hG z)
theorem fv_cast (b : List (Int × Int)) (L z : Int) : fv b L (z.toNat : Int) = fv b L z := by unfold fv; rw [kindAt_cast]
theorem floorS_sum (b : List (Int × Int)) (ms : List Int) : floorS b ms = ((placesI ms).map fun z => numAt ms z * fv b (leastI b ms) z).sum := by
  unfold floorS
  have := foldl_sum (fun z => numAt ms z * fv b (leastI b ms) z) (placesI ms) 0
  rw [Int.zero_add] at this
  exact this
theorem floorS_num {b : List (Int × Int)} {row : List Int} (hr : ∀ z ∈ row, 0 ≤ z ∧ z < b.length) : floorS b (numI b row) = (row.map (fv b (leastI b (numI b row)))).sum := by
  rw [floorS_sum]
  exact sum_places _ (fv_cast b _) hr
theorem pow2_bdR {a : Int} (h : Pow2 a) : 1 ≤ a ∧ a ≤ 64 := by unfold Pow2 at h; omega
/-! ### laying, by a unit -/
theorem lay_ge {k : Int × Int} (hk : Kind k) {u E : Int} (pu : Pow2 u) (du : u ∣ roomI k) : upI E u + upI k.1 (mn k.2 u) ≤ upI (upI E k.2 + k.1) u := by
  have u1 := pow2_bdR pu
  have a1 := hk.a0
  have dB : k.2 ∣ upI E k.2 := upI_dvd a1
  have geB := (up_le (n := E) hk.a0 hk.a1).1
  unfold mn
  by_cases c : u < k.2
  · rw [if_pos c]
    have d : u ∣ upI E k.2 := Int.dvd_trans (pow2_dvd pu hk.ap (by omega)) dB
    rw [up_shiftE d]
    have := upI_least u1.1 d geB
    omega
  · rw [if_neg c]
    have d : k.2 ∣ u := pow2_dvd hk.ap pu (by omega)
    have dX : u ∣ upI (upI E k.2 + k.1) u := upI_dvd u1.1
    have gX := (up_le (n := upI E k.2 + k.1) u1.1 u1.2).1
    generalize upI (upI E k.2 + k.1) u = X at *
    have dX' : k.2 ∣ X - upI E k.2 := Int.dvd_sub (Int.dvd_trans d dX) dB
    have := upI_least (n := k.1) a1 dX' (by omega)
    have du' : u ∣ X - upI k.1 k.2 := Int.dvd_sub dX du
    have := upI_least (n := E) u1.1 du' (by omega)
    omega
theorem lay_sum {b : List (Int × Int)} {u : Int} (pu : Pow2 u) : ∀ (row : List Int) (E : Int), (∀ z ∈ row, Kind (kindAt b z) ∧ u ∣ roomI (kindAt b z)) → upI E u + (row.map (fv b u)).sum ≤ upI (lastE b row E) u
  | [], E, _ => by simp [lastE]
  | z :: row, E, h => by
    obtain ⟨hk, du⟩ := h z List.mem_cons_self
    have ih := lay_sum pu row (upI E (kindAt b z).2 + (kindAt b z).1) fun y hy => h y (List.mem_cons_of_mem _ hy)
    have := lay_ge (E := E) hk pu du
    rw [List.map_cons, List.sum_cons, lastE]
    unfold fv at ih ⊢
    omega
theorem powM_pow2 {u : Int} (h : PowM u) (h1 : u ≤ 64) : Pow2 u := by
  obtain ⟨k, rfl⟩ := h
  have hk : k < 7 := by
    rcases Nat.lt_or_ge k 7 with c | c
    · exact c
    · have := Nat.pow_le_pow_right (show 0 < 2 by decide) c
      have e : (2 : Nat) ^ 7 = 128 := by decide
      omega
  unfold Pow2
  have : k = 0 ∨ k = 1 ∨ k = 2 ∨ k = 3 ∨ k = 4 ∨ k = 5 ∨ k = 6 := by omega
  rcases this with rfl | rfl | rfl | rfl | rfl | rfl | rfl <;> decide
structure UnitOf (b : List (Int × Int)) (ms : List Int) (u : Int) : Prop where
  p : Pow2 u
  room : ∀ k ∈ withF b ms, u ∣ roomI k
  same : ∀ k ∈ withF b ms, mn k.2 u = mn k.2 (leastI b ms)
  top : u ∣ recStep b ms
theorem leastI_pow {b : List (Int × Int)} {ms : List Int} (hb : BookOk b) (hm : RecOk b ms) : PowM (leastI b ms) ∧ ∀ k ∈ withF b ms, leastI b ms ≤ pw k := by
  obtain ⟨k, hk, e⟩ := List.mem_map.mp (minL_mem (l := (withF b ms).map pw) (by rw [List.length_map]; exact withF_some hm.len hm.some'))
  refine ⟨?_, fun k hk => minL_le (List.mem_map.mpr ⟨k, hk, rfl⟩)⟩
  unfold leastI
  rw [← e]
  exact powM_pw _
theorem al_le {b : List (Int × Int)} {ms : List Int} {k : Int × Int} (hk : k ∈ withF b ms) : k.2 ≤ recStep b ms := maxL_ge (List.mem_map.mpr ⟨k, hk, rfl⟩)
theorem unit_of {b : List (Int × Int)} {ms : List Int} (hb : BookOk b) (hm : RecOk b ms) : UnitOf b ms (mn (recStep b ms) (leastI b ms)) := by
  obtain ⟨pl, lk⟩ := leastI_pow hb hm
  have q := recStep_bd hb hm
  have l1 := (leastI_bd hb hm).1
  have pu : Pow2 (mn (recStep b ms) (leastI b ms)) := by
    unfold mn
    split
    · exact powM_pow2 pl (by omega)
    · exact q.2.2
  have ul : mn (recStep b ms) (leastI b ms) ≤ leastI b ms := by unfold mn; split <;> omega
  refine ⟨pu, fun k hk => ?_, fun k hk => ?_, ?_⟩
  · have kk := hb.kinds k (withF_kind hk)
    have := lk k hk
    exact Int.dvd_trans (powM_dvd (powM_of pu) (powM_pw (roomI k)) (by unfold pw at this; omega)) (powI_dvd (room_lt kk).1)
  · have := al_le hk
    unfold mn
    by_cases c : leastI b ms < recStep b ms
    · rw [if_pos c]
    · rw [if_neg c, if_neg (by omega), if_neg (by omega)]
  · refine pow2_dvd pu q.2.2 ?_
    unfold mn; split <;> omega
/-- no row is below the floor -/
theorem floor_le {b : List (Int × Int)} {row : List Int} (hb : BookOk b) (hr : RowOk b row) : floorI b (numI b row) ≤ whole b row := by
  have hm := num_rec hr.l0 (by have := hr.l1; omega) hr.ins
  have U := unit_of hb hm
  have q := recStep_bd hb hm
  rw [whole_num hb hr hm]
  have inF : ∀ z ∈ row, kindAt b z ∈ withF b (numI b row) := fun z hz => (withF_num hr.ins).mpr ⟨z, hz, rfl⟩
  have h1 := lay_sum (b := b) U.p row 0 fun z hz => ⟨hb.kinds _ (withF_kind (inF z hz)), U.room _ (inF z hz)⟩
  have e : row.map (fv b (mn (recStep b (numI b row)) (leastI b (numI b row)))) = row.map (fv b (leastI b (numI b row))) := List.map_congr_left fun z hz => by
    unfold fv
    rw [U.same _ (inF z hz)]
  rw [e, ← floorS_num hr.ins, upI_of (Int.dvd_zero _), Int.zero_add] at h1
  unfold floorI
  refine upI_least q.1 (upI_dvd q.1) (Int.le_trans h1 ?_)
  exact upI_mono (pow2_bdR U.p).1 q.1 U.top (Int.le_refl _)
/-! ### rows that come to it -/
def block (b : List (Int × Int)) (L f p : Int) : List Int := p :: List.replicate (behind b L p f) f
theorem places_kind {b : List (Int × Int)} {ms : List Int} (hm : RecOk b ms) {z : Int} (hz : z ∈ placesI ms) : kindAt b z ∈ withF b ms := by
  rw [← places_with b ms (by have := hm.len; omega)]
  exact List.mem_map.mpr ⟨z, hz, rfl⟩
theorem lack_al {k : Int × Int} (hk : Kind k) : 0 ≤ lackI k ∧ lackI k < k.2 := by
  have := room_bd hk
  unfold lackI
  omega
theorem roomL_dvd {b : List (Int × Int)} {ms : List Int} (hb : BookOk b) (hm : RecOk b ms) {k : Int × Int} (hk : k ∈ withF b ms) : leastI b ms ∣ roomI k := by
  obtain ⟨pl, lk⟩ := leastI_pow hb hm
  exact Int.dvd_trans (powM_dvd pl (powM_pw (roomI k)) (lk k hk)) (powI_dvd (room_lt (hb.kinds k (withF_kind hk))).1)
theorem fv_room {b : List (Int × Int)} {ms : List Int} (hb : BookOk b) (hm : RecOk b ms) {z : Int} (hz : z ∈ placesI ms) : fv b (leastI b ms) z = roomI (kindAt b z) - leastI b ms * (lackI (kindAt b z) / leastI b ms) := by
  have hk := places_kind hm hz
  have kk := hb.kinds _ (withF_kind hk)
  have l1 := (leastI_bd hb hm).1
  have la := lack_al kk
  have dr := roomL_dvd hb hm hk
  unfold fv mn
  generalize kindAt b z = k at *
  generalize leastI b ms = L at *
  by_cases c : L < k.2
  · rw [if_pos c]
    have h1 : L * (lackI k / L) ≤ lackI k := Int.mul_ediv_self_le (by omega)
    have h2 : lackI k < L * (lackI k / L) + L := by
      have := Int.emod_lt_of_pos (lackI k) (show 0 < L by omega)
      have := Int.emod_add_mul_ediv (lackI k) L
      omega
    refine up_eq l1 (Int.dvd_sub dr (Int.dvd_mul_right _ _)) ?_ ?_
    · have : lackI k = roomI k - k.1 := rfl
      omega
    · have : lackI k = roomI k - k.1 := rfl
      omega
  · rw [if_neg c, Int.ediv_eq_zero_of_lt la.1 (by omega), Int.mul_zero, Int.sub_zero]
    rfl
structure FineAt (b : List (Int × Int)) (ms : List Int) (f : Int) : Prop where
  there : f ∈ placesI ms
  pow : pw (kindAt b f) = leastI b ms
theorem fine_al {b : List (Int × Int)} {ms : List Int} (hb : BookOk b) (hm : RecOk b ms) {f : Int} (hf : FineAt b ms f) : (kindAt b f).2 ∣ leastI b ms ∧ (kindAt b f).2 ≤ leastI b ms := by
  have kk := hb.kinds _ (withF_kind (places_kind hm hf.there))
  have := (pw_bd kk).1
  rw [hf.pow] at this
  exact ⟨powM_dvd (powM_of kk.ap) (leastI_pow hb hm).1 this, this⟩
theorem fine_lack {b : List (Int × Int)} {ms : List Int} (hb : BookOk b) (hm : RecOk b ms) {f : Int} (hf : FineAt b ms f) : lackI (kindAt b f) / leastI b ms = 0 := by
  have kk := hb.kinds _ (withF_kind (places_kind hm hf.there))
  have la := lack_al kk
  have := (fine_al hb hm hf).2
  exact Int.ediv_eq_zero_of_lt la.1 (by omega)
theorem fine_fv {b : List (Int × Int)} {ms : List Int} (hb : BookOk b) (hm : RecOk b ms) {f : Int} (hf : FineAt b ms f) : fv b (leastI b ms) f = roomI (kindAt b f) := by
  rw [fv_room hb hm hf.there, fine_lack hb hm hf, Int.mul_zero, Int.sub_zero]
theorem behind_self {b : List (Int × Int)} {ms : List Int} (hb : BookOk b) (hm : RecOk b ms) {f : Int} (hf : FineAt b ms f) : behind b (leastI b ms) f f = 0 := by
  unfold behind
  rw [fine_lack hb hm hf, Int.mul_zero]
  exact first_zero
def sumV (b : List (Int × Int)) (L : Int) (row : List Int) : Int := (row.map (fv b L)).sum
theorem sumV_app (b : List (Int × Int)) (L : Int) (r q : List Int) : sumV b L (r ++ q) = sumV b L r + sumV b L q := by unfold sumV; rw [List.map_append, List.sum_append]
theorem sumV_cons (b : List (Int × Int)) (L z : Int) (q : List Int) : sumV b L (z :: q) = fv b L z + sumV b L q := by unfold sumV; rw [List.map_cons, List.sum_cons]
theorem sumV_dvd {b : List (Int × Int)} {ms : List Int} (hb : BookOk b) (hm : RecOk b ms) : ∀ row : List Int, (∀ z ∈ row, z ∈ placesI ms) → leastI b ms ∣ sumV b (leastI b ms) row
  | [], _ => Int.dvd_zero _
  | z :: row, h => by
    rw [sumV_cons]
    refine Int.dvd_add ?_ (sumV_dvd hb hm row fun y hy => h y (List.mem_cons_of_mem _ hy))
    have hz := h z List.mem_cons_self
    rw [fv_room hb hm hz]
    exact Int.dvd_sub (roomL_dvd hb hm (places_kind hm hz)) (Int.dvd_mul_right _ _)
/-- fields of the fine kind, one behind another -/
theorem fines_le {b : List (Int × Int)} {ms : List Int} (hb : BookOk b) (hm : RecOk b ms) {f : Int} (hf : FineAt b ms f) : ∀ (t : Nat) (E B : Int), E ≤ B → leastI b ms ∣ B → lastE b (List.replicate t f) E ≤ B + sumV b (leastI b ms) (List.replicate t f)
  | 0, E, B, h, _ => by simp [lastE, sumV]; exact h
  | t + 1, E, B, h, d => by
    have kk := hb.kinds _ (withF_kind (places_kind hm hf.there))
    have up := upI_least (n := E) kk.a0 (Int.dvd_trans (fine_al hb hm hf).1 d) h
    have ef := fine_fv hb hm hf
    have rb := (room_bd kk).1
    have dl := roomL_dvd hb hm (places_kind hm hf.there)
    rw [List.replicate_succ, lastE, sumV_cons, ef]
    have := fines_le hb hm hf t (upI E (kindAt b f).2 + (kindAt b f).1) (B + roomI (kindAt b f)) (by omega) (Int.dvd_add d dl)
    omega
theorem block_le {b : List (Int × Int)} {ms : List Int} (hb : BookOk b) (hm : RecOk b ms) {f p : Int} (hf : FineAt b ms f) (hp : p ∈ placesI ms) {E B : Int} (h : E ≤ B) (d : leastI b ms ∣ B) (da : alI b p ∣ B) :
    lastE b (block b (leastI b ms) f p) E ≤ B + sumV b (leastI b ms) (block b (leastI b ms) f p) ∧ alI b p ∣ sumV b (leastI b ms) (block b (leastI b ms) f p) := by
  have hk := places_kind hm hp
  have kk := hb.kinds _ (withF_kind hk)
  have kf := hb.kinds _ (withF_kind (places_kind hm hf.there))
  have up := upI_least (n := E) kk.a0 da h
  have l1 := (leastI_bd hb hm).1
  have ep := fv_room hb hm hp
  have dv : leastI b ms ∣ fv b (leastI b ms) p := by
    have := sumV_dvd hb hm [p] fun z hz => by rw [List.mem_singleton] at hz; subst hz; exact hp
    rwa [sumV_cons, show sumV b (leastI b ms) [] = 0 from rfl, Int.add_zero] at this
  have ge : (kindAt b p).1 ≤ fv b (leastI b ms) p := by
    have h1 : leastI b ms * (lackI (kindAt b p) / leastI b ms) ≤ lackI (kindAt b p) := Int.mul_ediv_self_le (by omega)
    have : lackI (kindAt b p) = roomI (kindAt b p) - (kindAt b p).1 := rfl
    omega
  unfold block
  rw [lastE, sumV_cons]
  refine ⟨?_, ?_⟩
  · have := fines_le hb hm hf (behind b (leastI b ms) p f) (upI E (kindAt b p).2 + (kindAt b p).1) (B + fv b (leastI b ms) p) (by omega) (Int.dvd_add d dv)
    omega
  · have e : ∀ t : Nat, sumV b (leastI b ms) (List.replicate t f) = t * roomI (kindAt b f) := by
      intro t
      induction t with
      | zero => simp [sumV]
      | succ t ih => rw [List.replicate_succ, sumV_cons, ih, fine_fv hb hm hf, show ((t + 1 : Nat) : Int) = (t : Int) + 1 by omega, Int.add_mul, Int.one_mul]; omega
    rw [e, ep]
    obtain ⟨_, g, _⟩ := first_bd (g := lackI (kindAt b p) / leastI b ms) (room_lt kf).1 hf.pow kk.ap
    have g2 : alI b p ∣ (behind b (leastI b ms) p f : Int) * roomI (kindAt b f) - leastI b ms * (lackI (kindAt b p) / leastI b ms) := by
      simp only [goesN, beq_iff_eq] at g
      exact Int.dvd_of_emod_eq_zero g
    have dr : alI b p ∣ roomI (kindAt b p) := upI_dvd kk.a0
    have := Int.dvd_add dr g2
    have e3 : roomI (kindAt b p) + ((behind b (leastI b ms) p f : Int) * roomI (kindAt b f) - leastI b ms * (lackI (kindAt b p) / leastI b ms)) = roomI (kindAt b p) - leastI b ms * (lackI (kindAt b p) / leastI b ms) + (behind b (leastI b ms) p f : Int) * roomI (kindAt b f) := by omega
    rw [← e3]
    exact this
theorem block_in {b : List (Int × Int)} {ms : List Int} {f p L : Int} (hf : f ∈ placesI ms) (hp : p ∈ placesI ms) : ∀ z ∈ block b L f p, z ∈ placesI ms := fun z hz => by
  rcases List.mem_cons.mp hz with rfl | hz
  · exact hp
  · rw [List.eq_of_mem_replicate hz]; exact hf
def blocks (b : List (Int × Int)) (L f p : Int) (m : Nat) : List Int := (List.replicate m (block b L f p)).flatten
theorem blocks_in {b : List (Int × Int)} {ms : List Int} {f p L : Int} (hf : f ∈ placesI ms) (hp : p ∈ placesI ms) (m : Nat) : ∀ z ∈ blocks b L f p m, z ∈ placesI ms := fun z hz => by
  obtain ⟨r, hr, hz⟩ := List.mem_flatten.mp hz
  rw [List.eq_of_mem_replicate hr] at hz
  exact block_in hf hp z hz
theorem blocks_le {b : List (Int × Int)} {ms : List Int} (hb : BookOk b) (hm : RecOk b ms) {f p : Int} (hf : FineAt b ms f) (hp : p ∈ placesI ms) : ∀ (m : Nat) {E B : Int}, E ≤ B → leastI b ms ∣ B → alI b p ∣ B →
    lastE b (blocks b (leastI b ms) f p m) E ≤ B + sumV b (leastI b ms) (blocks b (leastI b ms) f p m) ∧ alI b p ∣ sumV b (leastI b ms) (blocks b (leastI b ms) f p m)
  | 0, E, B, h, _, _ => by simp [blocks, lastE, sumV]; exact h
  | m + 1, E, B, h, d, da => by
    obtain ⟨h1, h2⟩ := block_le hb hm hf hp h d da
    have dv := sumV_dvd hb hm _ (block_in (b := b) (L := leastI b ms) hf.there hp)
    obtain ⟨h3, h4⟩ := blocks_le hb hm hf hp m h1 (Int.dvd_add d dv) (Int.dvd_add da h2)
    have e : blocks b (leastI b ms) f p (m + 1) = block b (leastI b ms) f p ++ blocks b (leastI b ms) f p m := by unfold blocks; rw [List.replicate_succ, List.flatten_cons]
    rw [e, lastE_append, sumV_app]
    exact ⟨by omega, Int.dvd_add h2 h4⟩
/-- the fields of a record, those of the fine kind put behind the others -/
def rowW (b : List (Int × Int)) (ms : List Int) (f : Int) (os : List Int) : List Int := os.flatMap fun p => blocks b (leastI b ms) f p (numAt ms p).toNat
theorem rowW_in {b : List (Int × Int)} {ms : List Int} {f : Int} (hf : f ∈ placesI ms) {os : List Int} (ho : ∀ p ∈ os, p ∈ placesI ms) : ∀ z ∈ rowW b ms f os, z ∈ placesI ms := fun z hz => by
  obtain ⟨p, hp, hz⟩ := List.mem_flatMap.mp hz
  exact blocks_in hf (ho p hp) _ z hz
theorem rowW_le {b : List (Int × Int)} {ms : List Int} (hb : BookOk b) (hm : RecOk b ms) {f : Int} (hf : FineAt b ms f) : ∀ (os : List Int) {E B : Int}, (∀ p ∈ os, p ∈ placesI ms) → os.Pairwise (fun p q => alI b q ≤ alI b p) → E ≤ B → leastI b ms ∣ B → (∀ p ∈ os, alI b p ∣ B) →
    lastE b (rowW b ms f os) E ≤ B + sumV b (leastI b ms) (rowW b ms f os)
  | [], E, B, _, _, h, _, _ => by simp [rowW, lastE, sumV]; exact h
  | p :: os, E, B, ho, pw, h, d, da => by
    have hp := ho p List.mem_cons_self
    obtain ⟨pw1, pw2⟩ := List.pairwise_cons.mp pw
    obtain ⟨h1, h2⟩ := blocks_le hb hm hf hp (numAt ms p).toNat h d (da p List.mem_cons_self)
    have dv := sumV_dvd hb hm _ (blocks_in (b := b) (L := leastI b ms) hf.there hp (numAt ms p).toNat)
    have kind : ∀ q ∈ placesI ms, Pow2 (alI b q) := fun q hq => (hb.kinds _ (withF_kind (places_kind hm hq))).ap
    have := rowW_le hb hm hf os (fun q hq => ho q (List.mem_cons_of_mem _ hq)) pw2 h1 (Int.dvd_add d dv) fun q hq => by
      have hq' := ho q (List.mem_cons_of_mem _ hq)
      exact Int.dvd_add (da q (List.mem_cons_of_mem _ hq)) (Int.dvd_trans (pow2_dvd (kind q hq') (kind p hp) (pw1 q hq)) h2)
    have e : rowW b ms f (p :: os) = blocks b (leastI b ms) f p (numAt ms p).toNat ++ rowW b ms f os := by unfold rowW; rw [List.flatMap_cons]
    rw [e, lastE_append, sumV_app]
    omega
theorem cnt_rep1 (f : Int) (j : Nat) : ∀ t : Nat, cnt (List.replicate t f) j = if f = (j : Int) then (t : Int) else 0
  | 0 => by rw [List.replicate_zero, cnt_nil]; split <;> rfl
  | t + 1 => by
    rw [List.replicate_succ, cnt_cons, cnt_rep1 f j t]
    split <;> omega
theorem cnt_repsR (row : List Int) (j : Nat) : ∀ n : Nat, cnt (List.replicate n row).flatten j = n * cnt row j
  | 0 => by simp [cnt_nil]
  | n + 1 => by
    rw [List.replicate_succ, List.flatten_cons, cnt_app, cnt_repsR row j n, Int.natCast_succ, Int.add_mul]; omega
theorem cnt_blocks (b : List (Int × Int)) (L f p : Int) (m j : Nat) : cnt (blocks b L f p m) j = m * ((if p = (j : Int) then 1 else 0) + (if f = (j : Int) then (behind b L p f : Int) else 0)) := by
  unfold blocks block
  rw [cnt_repsR, cnt_cons, cnt_rep1]
theorem numAt_nn {b : List (Int × Int)} {ms : List Int} (hm : RecOk b ms) {z : Int} (hz : z ∈ placesI ms) : 0 < numAt ms z := by
  obtain ⟨j, rfl, _, h⟩ := places_nat hz
  exact h
theorem cnt_rowW {b : List (Int × Int)} {ms : List Int} (hm : RecOk b ms) {f : Int} (j : Nat) : ∀ os : List Int, (∀ p ∈ os, p ∈ placesI ms) → cnt (rowW b ms f os) j = (os.map fun p => numAt ms p * (if p = (j : Int) then 1 else 0)).sum + (if f = (j : Int) then (os.map fun p => numAt ms p * (behind b (leastI b ms) p f : Int)).sum else 0)
  | [], _ => by
    rw [rowW, List.flatMap_nil, cnt_nil]
    simp
  | p :: os, h => by
    have := numAt_nn hm (h p List.mem_cons_self)
    have ih := cnt_rowW hm (f := f) j os fun q hq => h q (List.mem_cons_of_mem _ hq)
    have e : rowW b ms f (p :: os) = blocks b (leastI b ms) f p (numAt ms p).toNat ++ rowW b ms f os := by unfold rowW; rw [List.flatMap_cons]
    rw [e, cnt_app, cnt_blocks, ih, Int.toNat_of_nonneg (by omega), Int.mul_add]
    simp only [List.map_cons, List.sum_cons]
    by_cases c : f = (j : Int)
    · rw [if_pos c, if_pos c, if_pos c]; omega
    · rw [if_neg c, if_neg c, Int.mul_zero]; omega
theorem sum_one (ms : List Int) (z : Int) : ∀ os : List Int, os.Nodup → (os.map fun p => numAt ms p * (if p = z then 1 else 0)).sum = if z ∈ os then numAt ms z else 0
  | [], _ => by simp
  | p :: os, nd => by
    obtain ⟨h1, h2⟩ := List.nodup_cons.mp nd
    rw [List.map_cons, List.sum_cons, sum_one ms z os h2]
    by_cases c : p = z
    · subst c
      rw [if_pos rfl, if_neg h1, if_pos List.mem_cons_self]; omega
    · rw [if_neg c]
      by_cases d : z ∈ os
      · rw [if_pos d, if_pos (List.mem_cons_of_mem _ d)]; omega
      · rw [if_neg d, if_neg (fun h => by rcases List.mem_cons.mp h with h | h; exact c h.symm; exact d h)]; omega
structure Others (b : List (Int × Int)) (ms : List Int) (f : Int) (os : List Int) : Prop where
  mem : ∀ p, p ∈ os ↔ p ∈ placesI ms ∧ p ≠ f
  nodup : os.Nodup
  falls : os.Pairwise fun p q => alI b q ≤ alI b p
theorem places_nodup (ms : List Int) : (placesI ms).Nodup := by
  rw [places_range]
  refine List.Pairwise.filterMap _ (R := fun (a b : Nat) => a ≠ b) (fun i j hij x hx y hy e => ?_) List.nodup_range
  split at hx
  · split at hy
    · cases hx; cases hy; omega
    · cases hy
  · cases hx
theorem others_perm {b : List (Int × Int)} {ms : List Int} {f : Int} {os : List Int} (ho : Others b ms f os) (hf : f ∈ placesI ms) : (placesI ms).Perm (f :: os) := by
  refine (List.perm_ext_iff_of_nodup (places_nodup ms) (List.nodup_cons.mpr ⟨fun h => ((ho.mem f).mp h).2 rfl, ho.nodup⟩)).mpr fun z => ?_
  rw [List.mem_cons, ho.mem]
  constructor
  · intro h
    by_cases c : z = f
    · exact .inl c
    · exact .inr ⟨h, c⟩
  · rintro (rfl | h)
    · exact hf
    · exact h.1
theorem need_others {b : List (Int × Int)} {ms : List Int} {f : Int} {os : List Int} (hb : BookOk b) (hm : RecOk b ms) (hf : FineAt b ms f) (ho : Others b ms f os) : (os.map fun p => numAt ms p * (behind b (leastI b ms) p f : Int)).sum = needN b ms (leastI b ms) f := by
  unfold needN
  rw [perm_sum _ (others_perm ho hf.there), List.map_cons, List.sum_cons, behind_self hb hm hf]
  simp
/-- all fields -/
def rowA (b : List (Int × Int)) (ms : List Int) (f : Int) (os : List Int) : List Int := rowW b ms f os ++ List.replicate (numAt ms f - needN b ms (leastI b ms) f).toNat f
theorem rowA_num {b : List (Int × Int)} {ms : List Int} {f : Int} {os : List Int} (hb : BookOk b) (hm : RecOk b ms) (hf : FineAt b ms f) (ho : Others b ms f os) (en : needN b ms (leastI b ms) f ≤ numAt ms f) : numI b (rowA b ms f os) = ms := by
  refine num_eq_of hm.len fun j hj => ?_
  have hj' : j < ms.length := by have := hm.len; omega
  unfold rowA
  rw [cnt_app, cnt_rowW hm j os fun p hp => ((ho.mem p).mp hp).1, sum_one ms j os ho.nodup, cnt_rep1, need_others hb hm hf ho, Int.toNat_of_nonneg (by omega)]
  by_cases c : f = (j : Int)
  · subst c
    rw [if_neg fun h => ((ho.mem _).mp h).2 rfl, if_pos rfl, if_pos rfl]
    show _ = ms.getD j 0
    have : numAt ms (j : Int) = ms.getD j 0 := rfl
    omega
  · rw [if_neg c, if_neg c]
    by_cases d : (j : Int) ∈ os
    · rw [if_pos d]
      have : numAt ms (j : Int) = ms.getD j 0 := rfl
      omega
    · rw [if_neg d]
      have nn := (hm.nat (ms.getD j 0) (by rw [List.getD_eq_getElem?_getD, List.getElem?_eq_getElem hj']; exact List.getElem_mem hj')).1
      by_cases q : 0 < ms.getD j 0
      · exact absurd ((ho.mem _).mpr ⟨places_mem.mpr ⟨hj', q⟩, fun h => c h.symm⟩) d
      · omega
theorem rowA_in {b : List (Int × Int)} {ms : List Int} {f : Int} {os : List Int} (hf : FineAt b ms f) (ho : Others b ms f os) : ∀ z ∈ rowA b ms f os, z ∈ placesI ms := fun z hz => by
  rcases List.mem_append.mp hz with hz | hz
  · exact rowW_in hf.there (fun p hp => ((ho.mem p).mp hp).1) z hz
  · rw [List.eq_of_mem_replicate hz]; exact hf.there
theorem rowA_le {b : List (Int × Int)} {ms : List Int} {f : Int} {os : List Int} (hb : BookOk b) (hm : RecOk b ms) (hf : FineAt b ms f) (ho : Others b ms f os) : lastE b (rowA b ms f os) 0 ≤ sumV b (leastI b ms) (rowA b ms f os) := by
  have sub : ∀ p ∈ os, p ∈ placesI ms := fun p hp => ((ho.mem p).mp hp).1
  have h1 := rowW_le hb hm hf os sub ho.falls (Int.le_refl 0) (Int.dvd_zero _) fun p _ => Int.dvd_zero _
  rw [Int.zero_add] at h1
  have h2 := fines_le hb hm hf (numAt ms f - needN b ms (leastI b ms) f).toNat _ _ h1 (sumV_dvd hb hm _ (rowW_in hf.there sub))
  unfold rowA
  rw [lastE_append, sumV_app]
  exact h2
/-- where fields are enough, the end of these rows is not beyond the floor's sum -/
theorem rowA_floor {b : List (Int × Int)} {ms : List Int} {f : Int} {os : List Int} (hb : BookOk b) (hm : RecOk b ms) (hf : FineAt b ms f) (ho : Others b ms f os) (en : needN b ms (leastI b ms) f ≤ numAt ms f) : lastE b (rowA b ms f os) 0 ≤ floorS b ms := by
  have h := rowA_le hb hm hf ho
  have e := rowA_num hb hm hf ho en
  have ins : ∀ z ∈ rowA b ms f os, 0 ≤ z ∧ z < b.length := fun z hz => (places_ok2 hm (rowA_in hf ho z hz)).1
  have := floorS_num ins
  rw [e] at this
  rw [this]
  exact h
theorem others_some (b : List (Int × Int)) (ms : List Int) (f : Int) : ∃ os, Others b ms f os := by
  refine ⟨((placesI ms).filter fun p => p != f).mergeSort fun p q => decide (alI b q ≤ alI b p), fun p => ?_, ?_, ?_⟩
  · rw [List.mem_mergeSort, List.mem_filter]
    simp
  · exact (List.mergeSort_perm _ _).nodup_iff.mpr ((places_nodup ms).sublist List.filter_sublist)
  · exact (List.pairwise_mergeSort (le := fun p q => decide (alI b q ≤ alI b p)) (fun a b c h1 h2 => by simp only [decide_eq_true_eq] at *; omega) (fun a b => by simp only [Bool.or_eq_true, decide_eq_true_eq]; omega) _).imp fun h => by simpa using h
theorem num_sum {b : List (Int × Int)} {r : List Int} (ins : ∀ z ∈ r, 0 ≤ z ∧ z < b.length) : (numI b r).sum = r.length := by
  have hl := sum_cnt (fun _ => 1) b.length r ins
  have h1 : (numI b r).sum = ((List.range b.length).map fun j => 1 * cnt r j).sum := by
    unfold numI
    refine congrArg List.sum (List.map_congr_left fun j _ => by rw [Int.one_mul])
  rw [h1, hl]
  have : ∀ l : List Int, ((l.map fun z => (fun _ => (1 : Int)) z.toNat).sum) = l.length := by
    intro l
    induction l with
    | nil => rfl
    | cons a l ih => rw [List.map_cons, List.sum_cons, ih, List.length_cons]; dsimp only; omega
  exact this _
/-- a record's least whole is its floor where fields are enough -/
theorem reach {b : List (Int × Int)} {ms : List Int} {f : Int} (hb : BookOk b) (hm : RecOk b ms) (hf : FineAt b ms f) (en : needN b ms (leastI b ms) f ≤ numAt ms f) (hs : ms.sum ≤ 100) : ∃ row, RowOk b row ∧ numI b row = ms ∧ whole b row = floorI b ms := by
  obtain ⟨os, ho⟩ := others_some b ms f
  have e := rowA_num hb hm hf ho en
  have ins : ∀ z ∈ rowA b ms f os, 0 ≤ z ∧ z < b.length := fun z hz => (places_ok2 hm (rowA_in hf ho z hz)).1
  have hlen : ((rowA b ms f os).length : Int) = ms.sum := by rw [← num_sum ins, e]
  obtain ⟨m, hm1, hm2⟩ := hm.some'
  have s1 := (sum_pos fun m h => (hm.nat m h).1).1
  have pos : 0 < ms.sum := by
    have := sum_ge (fun m h => (hm.nat m h).1) hm1
    omega
  have ro : RowOk b (rowA b ms f os) := ⟨by omega, by omega, ins⟩
  refine ⟨_, ro, e, Int.le_antisymm ?_ ?_⟩
  · rw [whole_num hb ro (by rw [e]; exact hm), e]
    have q := recStep_bd hb hm
    exact upI_mono q.1 q.1 (Int.dvd_refl _) (rowA_floor hb hm hf ho en)
  · have := floor_le hb ro
    rw [e] at this
    exact this
theorem floor_least {b : List (Int × Int)} {ms : List Int} (hb : BookOk b) (hm : RecOk b ms) (hs : ms.sum ≤ 100) : floorI b ms ≤ leastW b ms := by
  obtain ⟨lr, lw⟩ := rowL_whole hb hm hs
  have := floor_le hb lr
  rw [(rowL_ok hm).1, lw] at this
  exact this
theorem reach_least {b : List (Int × Int)} {ms : List Int} {f : Int} (hb : BookOk b) (hm : RecOk b ms) (hf : FineAt b ms f) (en : needN b ms (leastI b ms) f ≤ numAt ms f) (hs : ms.sum ≤ 100) : leastW b ms = floorI b ms := by
  refine Int.le_antisymm ?_ (floor_least hb hm hs)
  obtain ⟨row, ro, e, w⟩ := reach hb hm hf en hs
  rw [← w]
  have := leastW_le hb ro (by rw [e]; exact hm)
  rw [e] at this
  exact this
end FF

/-! FFTank: the pools with names, their books. -/
namespace FF
open PySem PySem.Spec L2
end FF

/-! FFTank2: the books of the pools with names. -/
namespace FF
open PySem PySem.Spec L2
end FF

/-! FFTank3: uneven books, books rounded up. -/
namespace FF
open PySem PySem.Spec L2
/-! ### what is at hand -/
/-! ### uneven books -/
abbrev BookAny : D → Prop := fun x => ∃ b : List (Int × Int), x = bookD b ∧ 0 < b.length ∧ b.length ≤ 6 ∧ ∀ k ∈ b, Kind k
/-! ### rounded up -/
theorem mem_zipIdx_at {α : Type} {l : List α} {p : α × Nat} (h : p ∈ l.zipIdx) : l[p.2]? = some p.1 := by
  obtain ⟨a, i⟩ := p
  exact List.mem_zipIdx_iff_getElem?.mp h
/-! ### what is a book -/
/-! ### the plain law of rounding -/
end FF

/-! FFLevel: level books, drawn and judged. -/
namespace FF
open PySem PySem.Spec L2
theorem pow_shl {d : Int} (h0 : 0 ≤ d) (h1 : d < 7) : Pow2 (1 * 2 ^ d.toNat) := by
  obtain ⟨j, rfl⟩ := Int.eq_ofNat_of_zero_le h0
  have hj : j < 7 := by omega
  rw [Int.toNat_natCast]
  match j, hj with
  | 0, _ => decide
  | 1, _ => decide
  | 2, _ => decide
  | 3, _ => decide
  | 4, _ => decide
  | 5, _ => decide
  | 6, _ => decide
theorem pow2_bd {a : Int} (h : Pow2 a) : 1 ≤ a ∧ a ≤ 64 := by unfold Pow2 at h; omega
/-- a kind with a lack -/
def KindDOk (f : List D → Hq → R (D × Hq)) : Prop := ∀ (unit lack al : Int) (g : Bool), 1 ≤ unit → unit ≤ 64 → 0 ≤ lack → lack ≤ 100 → Pow2 al → FDraws deckF f [.ref deckF.root, .int unit, .int lack, .int al, .bl g] fun x => ∃ k, x = kindD k ∧ Kind k
theorem kindD_ok {φ : Fn} (hd : FDrawOk deckF (φ 53)) : KindDOk (runDef φ R_lkind) := by
  intro unit lack al g u0 u1 l0 l1 pa
  have a0 := pow2_bd pa
  refine fdraws_trim rfl rfl fun s rest ok u => ?_
  have st0 : 1 ≤ (if unit < al then al else unit) ∧ (if unit < al then al else unit) ≤ 64 := by split <;> omega
  refine FF.x_cons ?_
  refine FF.x_set ?_
  refine FF.x_bi ?_
  refine FF.x_acons ?_
  refine FF.x_var (by rfl) ?_
  refine FF.x_acons ?_
  refine FF.x_var (by rfl) ?_
  refine FF.x_anil ?_
  refine FF.OkO.of rfl ?_
  refine FF.OkO.of rfl ?_
  refine FF.nxt_nx ?_
  try dsimp only [List.set_cons_zero, List.set_cons_succ]
  refine FF.x_cons ?_
  refine FF.x_set ?_
  refine FF.x_bin ?_
  refine FF.x_const ?_
  refine FF.x_call ?_
  refine FF.x_acons ?_
  refine FF.x_var (by rfl) ?_
  refine FF.x_acons ?_
  refine FF.x_const ?_
  refine FF.x_anil ?_
  try dsimp only [List.set_cons_zero, List.set_cons_succ]
  generalize (if unit < al then al else unit) = st at st0
  have fin : ∀ (m : Int) (s : DeckS) (d : D), deckF.ok s → m * st ≤ T30 → ∃ (s' : DeckS) (own : Hq), deckF.h s rest = deckF.h s' (rest ++ own) ∧ deckF.ok s' ∧ (D.tup [.int (if 1 < m * st - lack then m * st - lack else 1), .int al]).pure = true ∧ ∃ k, D.tup [.int (if 1 < m * st - lack then m * st - lack else 1), .int al] = kindD k ∧ Kind k := by
    intro m s d ok hm
    refine ⟨s, [], by rw [List.append_nil], ok, rfl, (if 1 < m * st - lack then m * st - lack else 1, al), rfl, ?_, ?_, a0.1, a0.2, pa⟩ <;> dsimp only <;> split <;> (try unfold T30 at *) <;> omega
  refine (fdraw hd (many := 5) (by decide) (by decide +kernel) _ _ ok u).mono ?_
  rintro ⟨_, _⟩ ⟨_, ee, ok, z, ee2, z0, z1⟩
  dsimp only at ee ee2
  subst ee; subst ee2
  refine FF.OkO.of rfl ?_
  refine FF.OkO.of rfl ?_
  refine FF.nxt_nx ?_
  try dsimp only [List.set_cons_zero, List.set_cons_succ]
  refine FF.x_cons ?_
  refine FF.x_ite ?_
  refine FF.x_var (by rfl) ?_
  refine FF.OkO.of rfl ?_
  try dsimp only [List.set_cons_zero, List.set_cons_succ]
  cases g with
  | false =>
    refine FF.Cd.ff ?_
    refine FF.x_nil ?_
    refine FF.nxt_nx ?_
    try dsimp only [List.set_cons_zero, List.set_cons_succ]
    refine FF.x_cons ?_
    refine FF.x_ret ?_
    refine FF.x_tup ?_
    refine FF.x_acons ?_
    refine FF.x_bi ?_
    refine FF.x_acons ?_
    refine FF.x_const ?_
    refine FF.x_acons ?_
    refine FF.x_bin ?_
    refine FF.x_bin ?_
    refine FF.x_var (by rfl) ?_
    refine FF.x_var (by rfl) ?_
    try dsimp only [List.set_cons_zero, List.set_cons_succ]
    refine o_mul (mulOk_l (by omega) (by omega)) ?_
    refine FF.x_var (by rfl) ?_
    refine FF.OkO.of rfl ?_
    refine FF.x_anil ?_
    refine FF.OkO.of rfl ?_
    refine FF.x_acons ?_
    refine FF.x_var (by rfl) ?_
    refine FF.x_anil ?_
    refine FF.OkO.of rfl ?_
    refine FF.nxt_rt ?_
    try dsimp only [List.set_cons_zero, List.set_cons_succ]
    refine FF.end_rt ?_
    try dsimp only [List.set_cons_zero, List.set_cons_succ]
    have : (1 + z) * st ≤ 5 * 64 := Int.mul_le_mul (by omega) st0.2 (by omega) (by decide)
    exact fin (1 + z) _ .non ok (by unfold T30; omega)
  | true =>
    refine FF.Cd.tt ?_
    refine FF.x_cons ?_
    refine FF.x_set ?_
    refine FF.x_bin ?_
    refine FF.x_bin ?_
    refine FF.x_bin ?_
    refine FF.x_const ?_
    refine FF.x_const ?_
    refine FF.OkO.of rfl ?_
    refine FF.x_var (by rfl) ?_
    try dsimp only [List.set_cons_zero, List.set_cons_succ]
    refine o_div (by omega) (log64 st0.1 st0.2) ?_
    refine FF.x_call ?_
    refine FF.x_acons ?_
    refine FF.x_var (by rfl) ?_
    refine FF.x_acons ?_
    refine FF.x_const ?_
    refine FF.x_anil ?_
    try dsimp only [List.set_cons_zero, List.set_cons_succ]
    refine (fdraw hd (many := 3) (by decide) (by decide +kernel) _ _ ok u).mono ?_
    rintro ⟨_, _⟩ ⟨_, ee, ok, y, ee2, y0, y1⟩
    dsimp only at ee ee2
    subst ee; subst ee2
    refine FF.OkO.of rfl ?_
    refine FF.OkO.of rfl ?_
    refine FF.nxt_nx ?_
    try dsimp only [List.set_cons_zero, List.set_cons_succ]
    refine FF.x_nil ?_
    refine FF.nxt_nx ?_
    try dsimp only [List.set_cons_zero, List.set_cons_succ]
    refine FF.x_cons ?_
    refine FF.x_ret ?_
    refine FF.x_tup ?_
    refine FF.x_acons ?_
    refine FF.x_bi ?_
    refine FF.x_acons ?_
    refine FF.x_const ?_
    refine FF.x_acons ?_
    refine FF.x_bin ?_
    refine FF.x_bin ?_
    refine FF.x_var (by rfl) ?_
    refine FF.x_var (by rfl) ?_
    try dsimp only [List.set_cons_zero, List.set_cons_succ]
    refine o_mul (mulOk_r (by omega) (by omega)) ?_
    refine FF.x_var (by rfl) ?_
    refine FF.OkO.of rfl ?_
    refine FF.x_anil ?_
    refine FF.OkO.of rfl ?_
    refine FF.x_acons ?_
    refine FF.x_var (by rfl) ?_
    refine FF.x_anil ?_
    refine FF.OkO.of rfl ?_
    refine FF.nxt_rt ?_
    try dsimp only [List.set_cons_zero, List.set_cons_succ]
    refine FF.end_rt ?_
    try dsimp only [List.set_cons_zero, List.set_cons_succ]
    rw [e30]
    have m1 : T30 / st * st ≤ T30 := Int.ediv_mul_le T30 (by omega)
    have m2 : 0 ≤ y * st := Int.mul_nonneg y0 (by omega)
    exact fin (T30 / st - y) _ .non ok (by rw [Int.sub_mul]; omega)
/-- a book whose lacks are below a unit, and the unit -/
def LevelDOk (f : List D → Hq → R (D × Hq)) : Prop := ∀ kinds : Nat, kinds ≤ 6 → FDraws deckF f [.ref deckF.root, .int kinds] fun x => ∃ (b : List (Int × Int)) (unit : Int), x = .tup [bookD b, .int unit] ∧ b.length = kinds ∧ (∀ k ∈ b, Kind k) ∧ Pow2 unit ∧ unit ≤ 32
theorem kinds_pure (b : List (Int × Int)) : D.pures (b.map kindD) = true := pures_map b fun k _ => kind_pure k
theorem levelD_ok {φ : Fn} (hd : FDrawOk deckF (φ 53)) (hp : FPickOk deckF (φ 54)) (hk : KindDOk (φ 55)) : LevelDOk (runDef φ R_llevel) := by
  intro kinds kl
  refine fdraws_trim rfl rfl fun s rest ok u => ?_
  refine FF.x_cons ?_
  refine FF.x_set ?_
  refine FF.x_tup ?_
  refine FF.x_acons ?_
  refine FF.x_bin ?_
  refine FF.x_const ?_
  refine FF.x_call ?_
  refine FF.x_acons ?_
  refine FF.x_var (by rfl) ?_
  refine FF.x_acons ?_
  refine FF.x_const ?_
  refine FF.x_anil ?_
  try dsimp only [List.set_cons_zero, List.set_cons_succ]
  refine (fdraw hd (many := 6) (by decide) (by decide +kernel) _ _ ok u).mono ?_
  rintro ⟨_, _⟩ ⟨_, ee, ok, x, ee2, x0, x1⟩
  dsimp only at ee ee2
  subst ee; subst ee2
  try dsimp only [List.set_cons_zero, List.set_cons_succ]
  refine o_shl (decide_eq_true ⟨by omega, by omega, by decide⟩) ?_
  have pu := pow_shl (d := x) (by omega) (by omega)
  have pu2 : (1 : Int) * 2 ^ x.toNat ≤ 32 := by
    have : (2 : Nat) ^ x.toNat ≤ 2 ^ 5 := Nat.pow_le_pow_right (by decide) (by omega)
    have e : ((2 : Int) ^ x.toNat) = ((2 ^ x.toNat : Nat) : Int) := by simp
    rw [e]; omega
  generalize (1 : Int) * 2 ^ x.toNat = unit at pu pu2
  have ub := pow2_bd pu
  refine FF.x_acons ?_
  refine FF.x_lst ?_
  refine FF.x_anil ?_
  refine FF.OkO.of rfl ?_
  refine FF.x_anil ?_
  refine FF.OkO.of rfl ?_
  refine FF.OkO.of rfl ?_
  refine FF.nxt_nx ?_
  try dsimp only [List.set_cons_zero, List.set_cons_succ]
  refine FF.x_cons ?_
  refine FF.x_set ?_
  refine FF.x_cmp ?_
  refine FF.x_call ?_
  refine FF.x_acons ?_
  refine FF.x_var (by rfl) ?_
  refine FF.x_acons ?_
  refine FF.x_const ?_
  refine FF.x_anil ?_
  try dsimp only [List.set_cons_zero, List.set_cons_succ]
  rw [fh_len, fh_app]
  have u0 : FUnd deckF (rest ++ [Ob.lst []]) := fund_app u rfl
  refine (fdraw hd (many := 6) (by decide) (by decide +kernel) _ _ ok u0).mono ?_
  rintro ⟨_, _⟩ ⟨_, ee, ok, y, ee2, y0, y1⟩
  dsimp only at ee ee2
  subst ee; subst ee2
  refine FF.x_const ?_
  refine FF.OkO.of rfl ?_
  refine FF.OkO.of rfl ?_
  refine FF.nxt_nx ?_
  try dsimp only [List.set_cons_zero, List.set_cons_succ]
  refine FF.x_cons ?_
  refine FF.x_for ?_
  refine FF.x_range1 ?_
  refine FF.x_var (by rfl) ?_
  refine FF.o_rng1 (by omega) (by omega) ?_
  try dsimp only [List.set_cons_zero, List.set_cons_succ]
  refine wp_loopF (fun k s h => ∃ (b : List (Int × Int)) (d5 d6 d7 d8 : Option D) (s' : DeckS), s = [some (.ref deckF.root), some (.int kinds), some (.int unit), some (.ref (rest.length + deckF.n)), some (.bl (y == 0)), d5, d6, d7, d8] ∧ h = deckF.h s' (rest ++ [.lst (b.map kindD)]) ∧ deckF.ok s' ∧ b.length = k ∧ ∀ k ∈ b, Kind k) _ 0 _ _ ⟨[], _, _, _, _, _, rfl, rfl, ok, rfl, by simp⟩ ?_ ?_
  · rintro i d s h e ⟨b, d5, d6, d7, d8, s', rfl, rfl, ok, hb, hkb⟩
    obtain ⟨rfl, hi⟩ := rangeL_get e
    rw [Nat.zero_add] at hb
    have u1 := fund_app u (kinds_pure b)
    refine ⟨rfl, ?_⟩
    refine FF.x_stepL ?_
    refine FF.OkO.of rfl ?_
    refine FF.x_cons ?_
    refine FF.x_set ?_
    refine FF.x_bin ?_
    refine FF.x_const ?_
    refine FF.x_call ?_
    refine FF.x_acons ?_
    refine FF.x_var (by rfl) ?_
    refine FF.x_acons ?_
    refine FF.x_const ?_
    refine FF.x_anil ?_
    try dsimp only [List.set_cons_zero, List.set_cons_succ]
    refine (fdraw hd (many := 7) (by decide) (by decide +kernel) _ _ ok u1).mono ?_
    rintro ⟨_, _⟩ ⟨_, ee, ok, a, ee2, a0, a1⟩
    dsimp only at ee ee2
    subst ee; subst ee2
    try dsimp only [List.set_cons_zero, List.set_cons_succ]
    refine o_shl (decide_eq_true ⟨by omega, by omega, by decide⟩) ?_
    have pa := pow_shl (d := a) (by omega) (by omega)
    generalize (1 : Int) * 2 ^ a.toNat = al at pa
    have ab := pow2_bd pa
    refine FF.OkO.of rfl ?_
    refine FF.nxt_nx ?_
    try dsimp only [List.set_cons_zero, List.set_cons_succ]
    refine FF.x_cons ?_
    refine FF.x_set ?_
    refine FF.x_bin ?_
    refine FF.x_bi ?_
    refine FF.x_acons ?_
    refine FF.x_var (by rfl) ?_
    refine FF.x_acons ?_
    refine FF.x_var (by rfl) ?_
    refine FF.x_anil ?_
    refine FF.OkO.of rfl ?_
    refine FF.x_const ?_
    refine FF.OkO.of rfl ?_
    refine FF.OkO.of rfl ?_
    refine FF.nxt_nx ?_
    try dsimp only [List.set_cons_zero, List.set_cons_succ]
    refine FF.x_cons ?_
    refine FF.x_set ?_
    refine FF.x_call ?_
    refine FF.x_acons ?_
    refine FF.x_var (by rfl) ?_
    refine FF.x_acons ?_
    refine FF.x_lst ?_
    refine FF.x_acons ?_
    refine FF.x_const ?_
    refine FF.x_acons ?_
    refine FF.x_var (by rfl) ?_
    refine FF.x_acons ?_
    refine FF.x_call ?_
    refine FF.x_acons ?_
    refine FF.x_var (by rfl) ?_
    refine FF.x_acons ?_
    refine FF.x_bin ?_
    refine FF.x_var (by rfl) ?_
    refine FF.x_const ?_
    refine FF.OkO.of rfl ?_
    refine FF.x_anil ?_
    try dsimp only [List.set_cons_zero, List.set_cons_succ]
    have m0 : 1 ≤ (if al < unit then al else unit) ∧ (if al < unit then al else unit) ≤ 64 := by split <;> omega
    generalize (if al < unit then al else unit) = mo at m0
    refine (fdraw hd (many := mo - 1 + 1) (by omega) (by rw [show mo - 1 + 1 = mo by omega]; exact log64 m0.1 m0.2) _ _ ok u1).mono ?_
    rintro ⟨_, _⟩ ⟨_, ee, ok, v, ee2, v0, v1⟩
    dsimp only at ee ee2
    subst ee; subst ee2
    refine FF.x_anil ?_
    refine FF.OkO.of rfl ?_
    refine FF.x_anil ?_
    try dsimp only [List.set_cons_zero, List.set_cons_succ]
    refine (fpick hp [0, mo - 1, v] (by simp) (by simp) _ _ ok u1).mono ?_
    rintro ⟨_, _⟩ ⟨_, ee, ok, la, hla, ee2⟩
    dsimp only at ee ee2
    subst ee; subst ee2
    have la0 : 0 ≤ la ∧ la ≤ 64 := by simp at hla; omega
    refine FF.OkO.of rfl ?_
    refine FF.nxt_nx ?_
    try dsimp only [List.set_cons_zero, List.set_cons_succ]
    refine FF.x_cons ?_
    refine FF.x_expr ?_
    refine FF.x_me ?_
    refine FF.x_var (by rfl) ?_
    try dsimp only [List.set_cons_zero, List.set_cons_succ]
    refine o_kindF rfl ?_
    have tail : ∀ (g : Bool) (s' : DeckS), deckF.ok s' → Wp (φ 55 [.ref deckF.root, .int unit, .int la, .int al, .bl g] (deckF.h s' (rest ++ [.lst (b.map kindD)]))) fun p => ∃ s', p.2 = deckF.h s' (rest ++ [.lst (b.map kindD)]) ∧ deckF.ok s' ∧ ∃ k, p.1 = kindD k ∧ Kind k := fun g s' ok => hk unit la al g ub.1 ub.2 la0.1 (by omega) pa s' _ ok u1
    have fin : ∀ (k : Int × Int) (s' : DeckS) (d8 : Option D), Kind k → deckF.ok s' → ∃ (b' : List (Int × Int)) (d5 d6 d7 d8' : Option D) (s'' : DeckS), [some (.ref deckF.root), some (.int kinds), some (.int unit), some (.ref (rest.length + deckF.n)), some (.bl (y == 0)), some (.int (0 + (i : Int))), some (.int al), some (.int (mo - 1)), some (.int la)] = [some (.ref deckF.root), some (.int kinds), some (.int unit), some (.ref (rest.length + deckF.n)), some (.bl (y == 0)), d5, d6, d7, d8'] ∧ deckF.h s' (rest ++ [.lst (b.map kindD ++ [kindD k])]) = deckF.h s'' (rest ++ [.lst (b'.map kindD)]) ∧ deckF.ok s'' ∧ b'.length = 0 + i + 1 ∧ ∀ k ∈ b', Kind k := by
      intro k s' d8 kk ok
      refine ⟨b ++ [k], _, _, _, _, s', rfl, by rw [List.map_append]; rfl, ok, by rw [List.length_append, hb]; simp, fun k' hk' => ?_⟩
      rcases List.mem_append.mp hk' with h | h
      · exact hkb k' h
      · rw [List.mem_singleton] at h; subst h; exact kk
    refine FF.x_acons ?_
    refine FF.x_call ?_
    refine FF.x_acons ?_
    refine FF.x_var (by rfl) ?_
    refine FF.x_acons ?_
    refine FF.x_var (by rfl) ?_
    refine FF.x_acons ?_
    refine FF.x_var (by rfl) ?_
    refine FF.x_acons ?_
    refine FF.x_var (by rfl) ?_
    refine FF.x_acons ?_
    refine FF.x_and ?_
    refine FF.x_var (by rfl) ?_
    refine FF.OkO.of rfl ?_
    try dsimp only [List.set_cons_zero, List.set_cons_succ]
    cases gy : (y == 0) with
    | true =>
      rw [gy] at fin
      refine FF.Cd.tt ?_
      refine FF.x_cmp ?_
      refine FF.x_call ?_
      refine FF.x_acons ?_
      refine FF.x_var (by rfl) ?_
      refine FF.x_acons ?_
      refine FF.x_const ?_
      refine FF.x_anil ?_
      try dsimp only [List.set_cons_zero, List.set_cons_succ]
      refine (fdraw hd (many := 2) (by decide) (by decide +kernel) _ _ ok u1).mono ?_
      rintro ⟨_, _⟩ ⟨_, ee, ok, q, ee2, q0, q1⟩
      dsimp only at ee ee2
      subst ee; subst ee2
      refine FF.x_const ?_
      refine FF.OkO.of rfl ?_
      refine FF.x_anil ?_
      try dsimp only [List.set_cons_zero, List.set_cons_succ]
      refine (tail _ _ ok).mono ?_
      rintro ⟨_, _⟩ ⟨s', e1, ok, k, e2, kk⟩
      dsimp only at e1 e2
      subst e1; subst e2
      refine FF.x_anil ?_
      try dsimp only [List.set_cons_zero, List.set_cons_succ]
      refine o_appF (by rw [List.length_map]; omega) ?_
      refine FF.nxt_nx ?_
      try dsimp only [List.set_cons_zero, List.set_cons_succ]
      refine FF.x_nil ?_
      try dsimp only [List.set_cons_zero, List.set_cons_succ]
      exact fin k s' none kk ok
    | false =>
      rw [gy] at fin
      refine FF.Cd.ff ?_
      refine FF.x_anil ?_
      try dsimp only [List.set_cons_zero, List.set_cons_succ]
      refine (tail _ _ ok).mono ?_
      rintro ⟨_, _⟩ ⟨s', e1, ok, k, e2, kk⟩
      dsimp only at e1 e2
      subst e1; subst e2
      refine FF.x_anil ?_
      try dsimp only [List.set_cons_zero, List.set_cons_succ]
      refine o_appF (by rw [List.length_map]; omega) ?_
      refine FF.nxt_nx ?_
      try dsimp only [List.set_cons_zero, List.set_cons_succ]
      refine FF.x_nil ?_
      try dsimp only [List.set_cons_zero, List.set_cons_succ]
      exact fin k s' none kk ok
  · rintro s h ⟨b, d5, d6, d7, d8, s', rfl, rfl, ok, hb, hkb⟩
    refine ⟨rfl, ?_⟩
    refine FF.nxt_nx ?_
    try dsimp only [List.set_cons_zero, List.set_cons_succ]
    refine FF.x_cons ?_
    refine FF.x_ret ?_
    refine FF.x_tup ?_
    refine FF.x_acons ?_
    refine FF.x_bi ?_
    refine FF.x_acons ?_
    refine FF.x_var (by rfl) ?_
    refine FF.x_anil ?_
    try dsimp only [List.set_cons_zero, List.set_cons_succ]
    refine o_tupF ?_
    refine FF.x_acons ?_
    refine FF.x_var (by rfl) ?_
    refine FF.x_anil ?_
    refine FF.OkO.of rfl ?_
    refine FF.nxt_rt ?_
    try dsimp only [List.set_cons_zero, List.set_cons_succ]
    refine FF.end_rt ?_
    try dsimp only [List.set_cons_zero, List.set_cons_succ]
    rw [Nat.zero_add, rangeL_len] at hb
    refine ⟨s', _, rfl, ok, ?_, b, unit, rfl, by omega, hkb, pu, pu2⟩
    unfold D.pure D.pures D.pures D.pures
    rw [show (D.tup (b.map kindD)).pure = true from book_pure b]
    rfl
theorem kinds_of : ∀ {ms : List D}, (∀ x ∈ ms, ∃ k, x = kindD k ∧ Kind k) → ∃ b : List (Int × Int), ms = b.map kindD ∧ ∀ k ∈ b, Kind k
  | [], _ => ⟨[], rfl, by simp⟩
  | x :: ms, h => by
    obtain ⟨k, rfl, hk⟩ := h x List.mem_cons_self
    obtain ⟨b, rfl, hb⟩ := kinds_of (ms := ms) fun y hy => h y (List.mem_cons_of_mem _ hy)
    refine ⟨k :: b, rfl, fun k' hk' => ?_⟩
    rcases List.mem_cons.mp hk' with rfl | h
    · exact hk
    · exact hb k' h
theorem cut_take {α : Type} {xs : List α} (j : Nat) : cut xs none (some (j : Int)) = xs.take j := by
  unfold cut
  rw [HT.sIx_none, HT.sIx_nat, List.drop_zero, Nat.sub_zero]
  by_cases h : j ≤ xs.length
  · rw [Nat.min_eq_left h]
  · rw [Nat.min_eq_right (by omega), List.take_length, List.take_of_length_le (by omega)]
/-- any book of up to six kinds -/
def BookDOk (f : List D → Hq → R (D × Hq)) : Prop := ∀ kinds : Nat, 0 < kinds → kinds ≤ 6 → FDraws deckF f [.ref deckF.root, .int kinds] fun x => ∃ b : List (Int × Int), x = bookD b ∧ 0 < b.length ∧ b.length ≤ 6 ∧ ∀ k ∈ b, Kind k
theorem o_addLive {a b : List D} {h : Hq} {P : D × Hq → Prop} (hl : a.length + b.length ≤ 16777216) (p : P (.ref h.length, h ++ [.lst (a ++ b)])) : OkO (binop .Add true (.lst a) (.lst b) h) P := ⟨_, by simp [binop, addD, FF.lstOf, itemsOf, mkL, lineOk, hl], p⟩
theorem o_listP {x : D} {ds : List D} {h : Hq} {P : D × Hq → Prop} (e : itemsOf h x = some ds) (hl : ds.length ≤ 16777216) (p : P (.lst ds, h)) : OkO (biD .list false [x] h) P := ⟨_, by simp [biD, un1, listD, e, mkL, lineOk, hl], p⟩
theorem pow2_div {a : Int} (h : Pow2 a) (h1 : a ≤ 32) : Pow2 (a * 2) ∧ Pow2 (a * (64 / a)) ∧ 2 * a ≤ a * (64 / a) := by
  unfold Pow2 at h
  rcases h with rfl | rfl | rfl | rfl | rfl | rfl | rfl <;> first | decide | omega
theorem kinds_plain (b : List (Int × Int)) : D.plainTs (b.map kindD) = true := plains_map fun k _ => rfl
theorem kinds_deep (b : List (Int × Int)) : D.deepns (b.map kindD) ≤ 60 := Nat.le_trans (deepns_map (f := kindD) (c := 1) fun p _ => Nat.le_of_eq (pair_deep p)) (by decide)
theorem justD_ok {φ : Fn} (hd : FDrawOk deckF (φ 53)) (hp : FPickOk deckF (φ 54)) (hk : KindDOk (φ 55)) (hl : LevelDOk (φ 56)) (hm : FMixedOk deckF (φ 57)) : BookDOk (runDef φ R_ljust) := by
  intro kinds k0 kl
  refine fdraws_trim rfl rfl fun s rest ok u => ?_
  refine FF.x_cons ?_
  refine FF.x_set ?_
  refine FF.x_call ?_
  refine FF.x_acons ?_
  refine FF.x_var (by rfl) ?_
  refine FF.x_acons ?_
  refine FF.x_var (by rfl) ?_
  refine FF.x_anil ?_
  try dsimp only [List.set_cons_zero, List.set_cons_succ]
  refine (hl kinds kl _ _ ok u).mono ?_
  rintro ⟨_, _⟩ ⟨s, e1, ok, b, un, e2, hb, hkb, pu, pu2⟩
  dsimp only at e1 e2
  subst e1; subst e2
  have ub := pow2_bd pu
  refine FF.OkO.of rfl ?_
  refine FF.nxt_nx ?_
  try dsimp only [List.set_cons_zero, List.set_cons_succ]
  refine FF.x_cons ?_
  refine FF.x_set ?_
  refine FF.x_bi ?_
  refine FF.x_acons ?_
  refine FF.x_var (by rfl) ?_
  refine FF.x_acons ?_
  refine FF.x_const ?_
  refine FF.x_anil ?_
  refine FF.OkO.of rfl ?_
  refine FF.OkO.of rfl ?_
  refine FF.nxt_nx ?_
  try dsimp only [List.set_cons_zero, List.set_cons_succ]
  refine FF.x_cons ?_
  refine FF.x_set ?_
  refine FF.x_bin ?_
  refine FF.x_var (by rfl) ?_
  refine FF.x_call ?_
  refine FF.x_acons ?_
  refine FF.x_var (by rfl) ?_
  refine FF.x_acons ?_
  refine FF.x_lst ?_
  refine FF.x_acons ?_
  refine FF.x_const ?_
  refine FF.x_acons ?_
  refine FF.x_const ?_
  refine FF.x_acons ?_
  refine FF.x_bin ?_
  refine FF.x_const ?_
  refine FF.x_var (by rfl) ?_
  try dsimp only [List.set_cons_zero, List.set_cons_succ]
  have me : (if 32 < un then 32 else un) = un := if_neg (by omega)
  have me2 : (if un < 32 then un else 32) = un := by split <;> omega
  first | rw [me] | rw [me2]
  obtain ⟨d1, d2, d3⟩ := pow2_div pu pu2
  refine o_div (by omega) (log64 ub.1 ub.2) ?_
  refine FF.x_anil ?_
  refine FF.OkO.of rfl ?_
  refine FF.x_anil ?_
  try dsimp only [List.set_cons_zero, List.set_cons_succ]
  refine (fpick hp [2, 2, 64 / un] (by simp) (by simp) _ _ ok u).mono ?_
  rintro ⟨_, _⟩ ⟨_, ee, ok, q, hq, ee2⟩
  dsimp only at ee ee2
  subst ee; subst ee2
  have qq : Pow2 (un * q) ∧ 1 ≤ un * q ∧ un * q ≤ 64 ∧ un ≤ un * q := by
    simp only [List.mem_cons, List.not_mem_nil, or_false] at hq
    rcases hq with rfl | rfl | rfl
    · have := pow2_bd d1; exact ⟨d1, by omega, by omega, by omega⟩
    · have := pow2_bd d1; exact ⟨d1, by omega, by omega, by omega⟩
    · have := pow2_bd d2; exact ⟨d2, by omega, by omega, by omega⟩
  try dsimp only [List.set_cons_zero, List.set_cons_succ]
  refine o_mul (mulOk_l (by omega) (by omega)) ?_
  generalize un * q = al at qq
  refine FF.OkO.of rfl ?_
  refine FF.nxt_nx ?_
  try dsimp only [List.set_cons_zero, List.set_cons_succ]
  refine FF.x_cons ?_
  refine FF.x_set ?_
  refine FF.x_call ?_
  refine FF.x_acons ?_
  refine FF.x_var (by rfl) ?_
  refine FF.x_acons ?_
  refine FF.x_lst ?_
  refine FF.x_acons ?_
  refine FF.x_var (by rfl) ?_
  refine FF.x_acons ?_
  refine FF.x_var (by rfl) ?_
  refine FF.x_acons ?_
  refine FF.x_bin ?_
  refine FF.x_var (by rfl) ?_
  refine FF.x_const ?_
  refine FF.OkO.of rfl ?_
  refine FF.x_acons ?_
  refine FF.x_bin ?_
  refine FF.x_var (by rfl) ?_
  refine FF.x_const ?_
  refine FF.OkO.of rfl ?_
  refine FF.x_anil ?_
  refine FF.OkO.of rfl ?_
  refine FF.x_anil ?_
  try dsimp only [List.set_cons_zero, List.set_cons_succ]
  refine (fpick hp [un, un, un - 1, al - 1] (by simp) (by simp) _ _ ok u).mono ?_
  rintro ⟨_, _⟩ ⟨_, ee, ok, la, hla, ee2⟩
  dsimp only at ee ee2
  subst ee; subst ee2
  have la0 : 0 ≤ la ∧ la ≤ 64 := by simp at hla; omega
  refine FF.OkO.of rfl ?_
  refine FF.nxt_nx ?_
  try dsimp only [List.set_cons_zero, List.set_cons_succ]
  refine FF.x_cons ?_
  refine FF.x_set ?_
  refine FF.x_bin ?_
  refine FF.x_slice ?_
  refine FF.x_bi ?_
  refine FF.x_acons ?_
  refine FF.x_var (by rfl) ?_
  refine FF.x_anil ?_
  try dsimp only [List.set_cons_zero, List.set_cons_succ]
  refine o_listP (ds := b.map kindD) (by rfl) (by rw [List.length_map]; omega) ?_
  refine FF.x_no ?_
  refine FF.x_yes ?_
  refine FF.x_const ?_
  try dsimp only [List.set_cons_zero, List.set_cons_succ]
  refine ⟨4, rfl, ?_⟩
  refine FF.OkO.of rfl ?_
  refine FF.x_lst ?_
  refine FF.x_acons ?_
  refine FF.x_tup ?_
  refine FF.x_acons ?_
  refine FF.x_bin ?_
  refine FF.x_bin ?_
  refine FF.x_var (by rfl) ?_
  refine FF.x_bin ?_
  refine FF.x_const ?_
  refine FF.x_bin ?_
  refine FF.x_const ?_
  refine FF.x_call ?_
  refine FF.x_acons ?_
  refine FF.x_var (by rfl) ?_
  refine FF.x_acons ?_
  refine FF.x_const ?_
  refine FF.x_anil ?_
  try dsimp only [List.set_cons_zero, List.set_cons_succ]
  rw [show (some (4 : Int)) = some ((4 : Nat) : Int) from rfl, cut_take 4]
  refine (fdraw hd (many := 4) (by decide) (by decide +kernel) _ _ ok u).mono ?_
  rintro ⟨_, _⟩ ⟨_, ee, ok, x, ee2, x0, x1⟩
  dsimp only at ee ee2
  subst ee; subst ee2
  refine FF.OkO.of rfl ?_
  refine FF.OkO.of rfl ?_
  try dsimp only [List.set_cons_zero, List.set_cons_succ]
  refine o_mul (mulOk_l (by omega) (by omega)) ?_
  refine FF.x_call ?_
  refine FF.x_acons ?_
  refine FF.x_var (by rfl) ?_
  refine FF.x_acons ?_
  refine FF.x_bi ?_
  refine FF.x_acons ?_
  refine FF.x_var (by rfl) ?_
  refine FF.x_acons ?_
  refine FF.x_const ?_
  refine FF.x_anil ?_
  refine FF.OkO.of rfl ?_
  refine FF.x_anil ?_
  try dsimp only [List.set_cons_zero, List.set_cons_succ]
  have m0 : 1 ≤ (if 2 < un then 2 else un) ∧ (if 2 < un then 2 else un) ≤ 64 ∧ ((if 2 < un then 2 else un) ≤ un) ∧ (if 2 < un then 2 else un) ≤ 2 := by split <;> omega
  generalize (if 2 < un then 2 else un) = mo at m0
  refine (fdraw hd (many := mo) (by omega) (log64 m0.1 m0.2.1) _ _ ok u).mono ?_
  rintro ⟨_, _⟩ ⟨_, ee, ok, v, ee2, v0, v1⟩
  dsimp only at ee ee2
  subst ee; subst ee2
  have nn : un * 1 ≤ un * (1 + 2 * x) := Int.mul_le_mul_of_nonneg_left (by omega) (by omega)
  have nn2 : un * (1 + 2 * x) ≤ 32 * 7 := Int.mul_le_mul pu2 (by omega) (by omega) (by decide)
  generalize un * (1 + 2 * x) = N at nn nn2
  have nk : Kind (N - v, 1) := ⟨by dsimp only; omega, by dsimp only; unfold T30; omega, by dsimp only; decide, by dsimp only; decide, by dsimp only; decide⟩
  refine FF.OkO.of rfl ?_
  refine FF.x_acons ?_
  refine FF.x_const ?_
  refine FF.x_anil ?_
  refine FF.OkO.of rfl ?_
  refine FF.x_anil ?_
  refine FF.OkO.of rfl ?_
  try dsimp only [List.set_cons_zero, List.set_cons_succ]
  refine o_addLive (by rw [List.length_take, List.length_map]; simp; omega) ?_
  rw [fh_len, fh_app]
  let b1 : List (Int × Int) := b.take 4 ++ [(N - v, 1)]
  have eb : (b.map kindD).take 4 ++ [D.tup [.int (N - v), .int 1]] = b1.map kindD := by
    rw [List.map_append, List.map_take]; rfl
  rw [eb]
  have u1 := fund_app (F := deckF) u (kinds_pure b1)
  have l1 : b1.length ≤ 5 := by simp [b1]; omega
  have k1 : ∀ k ∈ b1, Kind k := fun k hk' => by
    rcases List.mem_append.mp hk' with h | h
    · exact hkb k (List.mem_of_mem_take h)
    · rw [List.mem_singleton] at h; subst h; exact nk
  refine FF.OkO.of rfl ?_
  refine FF.nxt_nx ?_
  try dsimp only [List.set_cons_zero, List.set_cons_succ]
  refine FF.x_cons ?_
  refine FF.x_expr ?_
  refine FF.x_me ?_
  refine FF.x_var (by rfl) ?_
  try dsimp only [List.set_cons_zero, List.set_cons_succ]
  refine o_kindF rfl ?_
  refine FF.x_acons ?_
  refine FF.x_call ?_
  refine FF.x_acons ?_
  refine FF.x_var (by rfl) ?_
  refine FF.x_acons ?_
  refine FF.x_var (by rfl) ?_
  refine FF.x_acons ?_
  refine FF.x_var (by rfl) ?_
  refine FF.x_acons ?_
  refine FF.x_var (by rfl) ?_
  refine FF.x_acons ?_
  refine FF.x_cmp ?_
  refine FF.x_call ?_
  refine FF.x_acons ?_
  refine FF.x_var (by rfl) ?_
  refine FF.x_acons ?_
  refine FF.x_const ?_
  refine FF.x_anil ?_
  try dsimp only [List.set_cons_zero, List.set_cons_succ]
  refine (fdraw hd (many := 8) (by decide) (by decide +kernel) _ _ ok u1).mono ?_
  rintro ⟨_, _⟩ ⟨_, ee, ok, g, ee2, g0, g1⟩
  dsimp only at ee ee2
  subst ee; subst ee2
  refine FF.x_const ?_
  refine FF.OkO.of rfl ?_
  refine FF.x_anil ?_
  try dsimp only [List.set_cons_zero, List.set_cons_succ]
  refine (hk un la al _ ub.1 ub.2 la0.1 (by omega) qq.1 _ _ ok u1).mono ?_
  rintro ⟨_, _⟩ ⟨s, e1, ok, k, e2, kk⟩
  dsimp only at e1 e2
  subst e1; subst e2
  refine FF.x_anil ?_
  try dsimp only [List.set_cons_zero, List.set_cons_succ]
  refine o_appF (by rw [List.length_map]; omega) ?_
  rw [show b1.map kindD ++ [kindD k] = (b1 ++ [k]).map kindD from (List.map_append (f := kindD) (l₁ := b1) (l₂ := [k])).symm]
  refine FF.nxt_nx ?_
  try dsimp only [List.set_cons_zero, List.set_cons_succ]
  refine FF.x_cons ?_
  refine FF.x_ret ?_
  refine FF.x_bi ?_
  refine FF.x_acons ?_
  refine FF.x_call ?_
  refine FF.x_acons ?_
  refine FF.x_var (by rfl) ?_
  refine FF.x_acons ?_
  refine FF.x_var (by rfl) ?_
  refine FF.x_anil ?_
  try dsimp only [List.set_cons_zero, List.set_cons_succ]
  have u2 := fund_app (F := deckF) u (kinds_pure (b1 ++ [k]))
  refine (hm (.ref (rest.length + deckF.n)) ((b1 ++ [k]).map kindD) _ _ ok u2 (by simp only [itemsOf, f_at]) (by rw [List.length_map, List.length_append]; simp; omega) (kinds_pure _) (kinds_plain _) (kinds_deep _)).mono ?_
  rintro ⟨_, _⟩ ⟨s, e1, ok, ms, e2, pm⟩
  dsimp only at e1 e2
  subst e1; subst e2
  obtain ⟨b2, rfl, hk2⟩ := kinds_of (ms := ms) fun x hx => by
    obtain ⟨k', hk', rfl⟩ := List.mem_map.mp (pm.mem_iff.mp hx)
    refine ⟨k', rfl, ?_⟩
    rcases List.mem_append.mp hk' with h | h
    · exact k1 k' h
    · rw [List.mem_singleton] at h; subst h; exact kk
  have ln := pm.length_eq
  rw [List.length_map, List.length_map, List.length_append, List.length_singleton] at ln
  refine FF.x_anil ?_
  refine FF.OkO.of rfl ?_
  refine FF.nxt_rt ?_
  try dsimp only [List.set_cons_zero, List.set_cons_succ]
  refine FF.end_rt ?_
  try dsimp only [List.set_cons_zero, List.set_cons_succ]
  exact ⟨s, _, rfl, ok, book_pure b2, b2, rfl, by omega, by omega, hk2⟩
/-! ### the least pair -/
def pairI (b : List (Int × Int)) : Option (Nat × Nat) := b.zipIdx.findSome? fun p => b.zipIdx.findSome? fun q => if powI (roomI q.1) ≤ lackI p.1 then some (p.2, q.2) else none
def pairV : Option (Nat × Nat) → D
  | some (x, y) => .tup [.int x, .int y]
  | none => .non
def pairP (p : Nat × Nat) : D := .tup [.int p.1, .int p.2]
def PairOk (f : List D → Hq → R (D × Hq)) : Prop := ∀ (b : List (Int × Int)) (h : Hq), BookOk b → Wp (f [bookD b] h) fun p => p = (pairV (pairI b), h)
theorem pairV_pure : ∀ o, (pairV o).pure = true
  | some (x, y) => rfl
  | none => rfl
theorem mem_zipIdx_left {α : Type} {l : List α} {p : α × Nat} (h : p ∈ l.zipIdx) : p.1 ∈ l := by
  have := List.mem_zipIdx h
  rw [this.2.2]
  exact List.getElem_mem _
theorem levelE_ok {φ : Fn} (h38 : RoomsOk (φ 38) roomI) (h39 : RoomsOk (φ 39) lackI) (h40 : PowOk (φ 40)) : PairOk (runDef φ R_levelE) := by
  intro b h hb
  have bl := hb.len
  refine pure_def rfl rfl ?_ (pairV_pure _) ?_
  · simp [D.pures, book_pure]
  refine FF.x_cons ?_
  refine FF.x_set ?_
  refine FF.x_comp ?_
  refine FF.x_iex ?_
  refine FF.x_call ?_
  refine FF.x_acons ?_
  refine FF.x_var (by rfl) ?_
  refine FF.x_anil ?_
  try dsimp only [List.set_cons_zero, List.set_cons_succ]
  refine (h38 b _ hb).mono ?_
  rintro _ rfl
  refine FF.OkO.of rfl ?_
  try dsimp only [List.set_cons_zero, List.set_cons_succ]
  refine wp_map D.int (fun z => .int (powI z)) (b.map roomI) (by rfl) (by rw [List.length_map]; omega) (fun z hz => ?_) ?_
  · obtain ⟨k, hk, rfl⟩ := List.mem_map.mp hz
    have q := room_lt (hb.kinds k hk)
    refine FF.x_stepC ?_
    refine FF.OkO.of rfl ?_
    refine FF.x_if0 ?_
    refine FF.Cd.tt ?_
    refine FF.x_call ?_
    refine FF.x_acons ?_
    refine FF.x_var (by rfl) ?_
    refine FF.x_anil ?_
    try dsimp only [List.set_cons_zero, List.set_cons_succ]
    refine (h40 _ _ q.1 q.2).mono ?_
    rintro _ rfl
    try dsimp only [List.set_cons_zero, List.set_cons_succ]
  refine o_lst (by rw [List.length_map, List.length_map]; omega) ?_
  rw [List.map_map, show ((fun z => D.int (powI z)) ∘ roomI) = fun k => D.int (powI (roomI k)) from rfl]
  refine FF.OkO.of rfl ?_
  refine FF.nxt_nx ?_
  try dsimp only [List.set_cons_zero, List.set_cons_succ]
  refine FF.x_cons ?_
  refine FF.x_for ?_
  refine FF.x_enum ?_
  refine FF.x_call ?_
  refine FF.x_acons ?_
  refine FF.x_var (by rfl) ?_
  refine FF.x_anil ?_
  try dsimp only [List.set_cons_zero, List.set_cons_succ]
  refine (h39 b _ hb).mono ?_
  rintro _ rfl
  refine FF.OkO.of rfl ?_
  try dsimp only [List.set_cons_zero, List.set_cons_succ]
  rw [← map_int lackI b, enumL_map]
  refine wp_find (fun p : (Int × Int) × Nat => D.tup [.int (p.2 : Nat), .int (lackI p.1)]) (fun p => b.zipIdx.findSome? fun q => if powI (roomI q.1) ≤ lackI p.1 then some (p.2, q.2) else none) pairP (fun s => ∃ d2 d3 d4 d5 : Option D, s = [some (bookD b), some (.lst (b.map fun k => D.int (powI (roomI k)))), d2, d3, d4, d5, none]) (by rfl) b.zipIdx _ ⟨_, _, _, _, rfl⟩ ?_ ?_ ?_
  · rintro p hp s ⟨d2, d3, d4, d5, rfl⟩
    refine FF.x_stepL ?_
    refine FF.OkO.of rfl ?_
    refine FF.x_cons ?_
    refine FF.x_for ?_
    refine FF.x_enum ?_
    refine FF.x_var (by rfl) ?_
    refine FF.OkO.of rfl ?_
    try dsimp only [List.set_cons_zero, List.set_cons_succ]
    rw [enumL_map]
    refine wp_find (fun q : (Int × Int) × Nat => D.tup [.int (q.2 : Nat), .int (powI (roomI q.1))]) (fun q => if powI (roomI q.1) ≤ lackI p.1 then some (p.2, q.2) else none) pairP (fun s => ∃ d4 d5 : Option D, s = [some (bookD b), some (.lst (b.map fun k => D.int (powI (roomI k)))), some (.int (p.2 : Nat)), some (.int (lackI p.1)), d4, d5, none]) (by rfl) b.zipIdx _ ⟨_, _, rfl⟩ ?_ ?_ ?_
    · rintro q hq s ⟨d4, d5, rfl⟩
      refine FF.x_stepL ?_
      refine FF.OkO.of rfl ?_
      refine FF.x_cons ?_
      refine FF.x_ite ?_
      refine FF.x_cmp ?_
      refine FF.x_var (by rfl) ?_
      refine FF.x_var (by rfl) ?_
      refine FF.OkO.of rfl ?_
      refine FF.OkO.of rfl ?_
      try dsimp only [List.set_cons_zero, List.set_cons_succ]
      refine ⟨fun c => ?_, fun c => ?_⟩
      · refine FF.x_cons ?_
        refine FF.x_ret ?_
        refine FF.x_tup ?_
        refine FF.x_acons ?_
        refine FF.x_var (by rfl) ?_
        refine FF.x_acons ?_
        refine FF.x_var (by rfl) ?_
        refine FF.x_anil ?_
        refine FF.OkO.of rfl ?_
        refine FF.nxt_rt ?_
        try dsimp only [List.set_cons_zero, List.set_cons_succ]
        refine FF.nxt_rt ?_
        try dsimp only [List.set_cons_zero, List.set_cons_succ]
        try dsimp only [List.set_cons_zero, List.set_cons_succ]
        exact .inl ⟨(p.2, q.2), if_pos (of_decide_eq_true c), rfl⟩
      · refine FF.x_nil ?_
        refine FF.nxt_nx ?_
        try dsimp only [List.set_cons_zero, List.set_cons_succ]
        refine FF.x_nil ?_
        try dsimp only [List.set_cons_zero, List.set_cons_succ]
        exact .inr ⟨if_neg (of_decide_eq_false c), _, rfl, _, _, rfl⟩
    · intro v e
      refine FF.nxt_rt ?_
      try dsimp only [List.set_cons_zero, List.set_cons_succ]
      try dsimp only [List.set_cons_zero, List.set_cons_succ]
      exact .inl ⟨v, e, rfl⟩
    · rintro e s ⟨d4, d5, rfl⟩
      refine FF.nxt_nx ?_
      try dsimp only [List.set_cons_zero, List.set_cons_succ]
      refine FF.x_nil ?_
      try dsimp only [List.set_cons_zero, List.set_cons_succ]
      exact .inr ⟨e, _, rfl, _, _, _, _, rfl⟩
  · intro v e
    refine FF.nxt_rt ?_
    try dsimp only [List.set_cons_zero, List.set_cons_succ]
    refine FF.end_rt ?_
    try dsimp only [List.set_cons_zero, List.set_cons_succ]
    have : pairI b = some v := e
    rw [this]
    exact thaw1_pure rfl
  · rintro e s ⟨d2, d3, d4, d5, rfl⟩
    refine FF.nxt_nx ?_
    try dsimp only [List.set_cons_zero, List.set_cons_succ]
    refine FF.x_cons ?_
    refine FF.x_ret ?_
    refine FF.x_const ?_
    refine FF.nxt_rt ?_
    try dsimp only [List.set_cons_zero, List.set_cons_succ]
    refine FF.end_rt ?_
    try dsimp only [List.set_cons_zero, List.set_cons_succ]
    have : pairI b = none := e
    rw [this]
    exact thaw1_pure rfl
theorem lpair_ok {φ : Fn} (h62 : RoomOk (φ 62)) (h63 : LackOk (φ 63)) (h64 : PowOk (φ 64)) : PairOk (runDef φ R_lpair) := by
  intro b h hb
  refine pure_def rfl rfl ?_ (pairV_pure _) ?_
  · simp [D.pures, book_pure]
  refine FF.x_cons ?_
  refine FF.x_for ?_
  refine FF.x_enum ?_
  refine FF.x_var (by rfl) ?_
  refine FF.OkO.of rfl ?_
  try dsimp only [List.set_cons_zero, List.set_cons_succ]
  rw [enumL_map]
  refine wp_find (fun p : (Int × Int) × Nat => D.tup [.int (p.2 : Nat), kindD p.1]) (fun p => b.zipIdx.findSome? fun q => if powI (roomI q.1) ≤ lackI p.1 then some (p.2, q.2) else none) pairP (fun s => ∃ d1 d2 d3 d4 : Option D, s = [some (bookD b), d1, d2, d3, d4]) (by rfl) b.zipIdx _ ⟨_, _, _, _, rfl⟩ ?_ ?_ ?_
  · rintro p hp s ⟨d1, d2, d3, d4, rfl⟩
    have hkp := hb.kinds _ (mem_zipIdx_left hp)
    refine FF.x_stepL ?_
    refine FF.OkO.of rfl ?_
    refine FF.x_cons ?_
    refine FF.x_for ?_
    refine FF.x_enum ?_
    refine FF.x_var (by rfl) ?_
    refine FF.OkO.of rfl ?_
    try dsimp only [List.set_cons_zero, List.set_cons_succ]
    rw [enumL_map]
    refine wp_find (fun q : (Int × Int) × Nat => D.tup [.int (q.2 : Nat), kindD q.1]) (fun q => if powI (roomI q.1) ≤ lackI p.1 then some (p.2, q.2) else none) pairP (fun s => ∃ d3 d4 : Option D, s = [some (bookD b), some (.int (p.2 : Nat)), some (kindD p.1), d3, d4]) (by rfl) b.zipIdx _ ⟨_, _, rfl⟩ ?_ ?_ ?_
    · rintro q hq s ⟨d3, d4, rfl⟩
      have hkq := hb.kinds _ (mem_zipIdx_left hq)
      have rl := room_lt hkq
      refine FF.x_stepL ?_
      refine FF.OkO.of rfl ?_
      refine FF.x_cons ?_
      refine FF.x_ite ?_
      refine FF.x_cmp ?_
      refine FF.x_call ?_
      refine FF.x_acons ?_
      refine FF.x_var (by rfl) ?_
      refine FF.x_anil ?_
      try dsimp only [List.set_cons_zero, List.set_cons_succ]
      refine (h63 _ _ hkp).mono ?_
      rintro _ rfl
      refine FF.x_call ?_
      refine FF.x_acons ?_
      refine FF.x_call ?_
      refine FF.x_acons ?_
      refine FF.x_var (by rfl) ?_
      refine FF.x_anil ?_
      try dsimp only [List.set_cons_zero, List.set_cons_succ]
      refine (h62 _ _ hkq).mono ?_
      rintro _ rfl
      refine FF.x_anil ?_
      try dsimp only [List.set_cons_zero, List.set_cons_succ]
      refine (h64 _ _ rl.1 rl.2).mono ?_
      rintro _ rfl
      refine FF.OkO.of rfl ?_
      refine FF.OkO.of rfl ?_
      try dsimp only [List.set_cons_zero, List.set_cons_succ]
      refine ⟨fun c => ?_, fun c => ?_⟩
      · refine FF.x_cons ?_
        refine FF.x_ret ?_
        refine FF.x_tup ?_
        refine FF.x_acons ?_
        refine FF.x_var (by rfl) ?_
        refine FF.x_acons ?_
        refine FF.x_var (by rfl) ?_
        refine FF.x_anil ?_
        refine FF.OkO.of rfl ?_
        refine FF.nxt_rt ?_
        try dsimp only [List.set_cons_zero, List.set_cons_succ]
        refine FF.nxt_rt ?_
        try dsimp only [List.set_cons_zero, List.set_cons_succ]
        try dsimp only [List.set_cons_zero, List.set_cons_succ]
        exact .inl ⟨(p.2, q.2), if_pos (of_decide_eq_true c), rfl⟩
      · refine FF.x_nil ?_
        refine FF.nxt_nx ?_
        try dsimp only [List.set_cons_zero, List.set_cons_succ]
        refine FF.x_nil ?_
        try dsimp only [List.set_cons_zero, List.set_cons_succ]
        exact .inr ⟨if_neg (of_decide_eq_false c), _, rfl, _, _, rfl⟩
    · intro v e
      refine FF.nxt_rt ?_
      try dsimp only [List.set_cons_zero, List.set_cons_succ]
      try dsimp only [List.set_cons_zero, List.set_cons_succ]
      exact .inl ⟨v, e, rfl⟩
    · rintro e s ⟨d3, d4, rfl⟩
      refine FF.nxt_nx ?_
      try dsimp only [List.set_cons_zero, List.set_cons_succ]
      refine FF.x_nil ?_
      try dsimp only [List.set_cons_zero, List.set_cons_succ]
      exact .inr ⟨e, _, rfl, _, _, _, _, rfl⟩
  · intro v e
    refine FF.nxt_rt ?_
    try dsimp only [List.set_cons_zero, List.set_cons_succ]
    refine FF.end_rt ?_
    try dsimp only [List.set_cons_zero, List.set_cons_succ]
    have : pairI b = some v := e
    rw [this]
    exact thaw1_pure rfl
  · rintro e s ⟨d1, d2, d3, d4, rfl⟩
    refine FF.nxt_nx ?_
    try dsimp only [List.set_cons_zero, List.set_cons_succ]
    refine FF.x_cons ?_
    refine FF.x_ret ?_
    refine FF.x_const ?_
    refine FF.nxt_rt ?_
    try dsimp only [List.set_cons_zero, List.set_cons_succ]
    refine FF.end_rt ?_
    try dsimp only [List.set_cons_zero, List.set_cons_succ]
    have : pairI b = none := e
    rw [this]
    exact thaw1_pure rfl
end FF

/-! FFLots: lots of places. -/
namespace FF
open PySem PySem.Spec L2
/-! ### lots, by a number of places -/
/-! ### sorted -/
/-! ### of a book -/
def unitI (b : List (Int × Int)) : Int := minL (b.map fun k => powI (roomI k))
theorem pair_none {b : List (Int × Int)} (b0 : 0 < b.length) : pairI b = none ↔ ∀ k ∈ b, lackI k < unitI b := by
  unfold pairI
  rw [List.findSome?_eq_none_iff]
  constructor
  · intro h k hk
    obtain ⟨i, hi, e⟩ := List.getElem_of_mem hk
    have h1 := h (k, i) (List.mem_zipIdx_iff_getElem?.mpr (by rw [List.getElem?_eq_getElem hi, e]))
    rw [List.findSome?_eq_none_iff] at h1
    obtain ⟨k2, hk2, e2⟩ := List.mem_map.mp (minL_mem (l := b.map fun k => powI (roomI k)) (by rw [List.length_map]; exact b0))
    obtain ⟨i2, hi2, e3⟩ := List.getElem_of_mem hk2
    have h2 := h1 (k2, i2) (List.mem_zipIdx_iff_getElem?.mpr (by rw [List.getElem?_eq_getElem hi2, e3]))
    dsimp only at h2
    rw [e2] at h2
    split at h2
    · cases h2
    · unfold unitI; omega
  · intro h p hp
    rw [List.findSome?_eq_none_iff]
    intro q hq
    have h1 := h p.1 (List.mem_of_getElem? (mem_zipIdx_at hp))
    have h2 : unitI b ≤ powI (roomI q.1) := minL_le (List.mem_map.mpr ⟨q.1, List.mem_of_getElem? (mem_zipIdx_at hq), rfl⟩)
    rw [if_neg (by omega)]
end FF

/-! FFThing: arrays and records as kinds; what is refused. -/
namespace FF
open PySem PySem.Spec L2
/-! ### the law's own whole of rooms -/
/-! ### what keeps a book level -/
theorem unitI_pow {b : List (Int × Int)} (b0 : 0 < b.length) : PowM (unitI b) ∧ ∀ k ∈ b, unitI b ≤ powI (roomI k) := by
  refine ⟨?_, fun k hk => minL_le (List.mem_map.mpr ⟨k, hk, rfl⟩)⟩
  obtain ⟨k, _, e⟩ := List.mem_map.mp (minL_mem (l := b.map fun k => powI (roomI k)) (by rw [List.length_map]; exact b0))
  unfold unitI
  rw [← e]
  exact powM_pw _
end FF

/-! FFThing2: the law's own least whole by parts; least wholes of level books. -/
namespace FF
open PySem PySem.Spec L2
/-! ### least wholes of level books -/
theorem levelBy_of {b : List (Int × Int)} (hb : ∀ k ∈ b, Kind k) (b0 : 0 < b.length) (lv : pairI b = none) : LevelBy (unitI b) b :=
  ⟨(unitI_pow b0).1, fun k hk => Int.dvd_trans (powM_dvd (unitI_pow b0).1 (powM_pw _) ((unitI_pow b0).2 k hk)) (powI_dvd (room_lt (hb k hk)).1), fun k hk => (pair_none b0).mp lv k hk⟩
theorem leastW_level {b : List (Int × Int)} {ms : List Int} (hb : BookOk b) (b0 : 0 < b.length) (lv : pairI b = none) (hm : RecOk b ms) (hs : ms.sum ≤ 100) : leastW b ms = dueI b ms := by
  have L := levelBy_of hb.kinds b0 lv
  rw [← floor_level hb L hm]
  have wn := withF_some hm.len hm.some'
  obtain ⟨f, hf⟩ : ∃ f, FineAt b ms f := by
    obtain ⟨k, hk, e⟩ := List.mem_map.mp (minL_mem (l := (withF b ms).map pw) (by rw [List.length_map]; exact wn))
    rw [← places_with b ms (by have := hm.len; omega)] at hk
    obtain ⟨z, hz, rfl⟩ := List.mem_map.mp hk
    exact ⟨z, hz, e⟩
  refine reach_least hb hm hf ?_ hs
  have h1 := need_level hb L hm (f, needN b ms (leastI b ms) f) (List.mem_map.mpr ⟨f, List.mem_filterMap.mpr ⟨f, hf.there, by rw [if_pos hf.pow]⟩, rfl⟩)
  have h2 := numAt_nn hm hf.there
  have h3 : needN b ms (leastI b ms) f = 0 := h1
  omega
end FF

/-! FFSortT: sorted lists of pairs; fields by falling alignments. -/
namespace FF
open PySem PySem.Spec L2
end FF

/-! FFBehind: rows laid again and again, records laid by orders. -/
namespace FF
open PySem PySem.Spec L2
/-! ### the plain law of rows laid again -/
/-! ### by the defs -/
end FF

/-! FFBehind2: rows laid again and again, by the def. -/
namespace FF
open PySem PySem.Spec L2
end FF

/-! FFPieces: pieces laid. -/
namespace FF
open PySem PySem.Spec L2
end FF

/-! FFPiecesK: pieces laid, the rows plain. -/
namespace FF
open PySem PySem.Spec L2
end FF

/-! FFPrec: records of pieces, pieces written out. -/
namespace FF
open PySem PySem.Spec L2
/-! ### pieces written out -/
def written (ps : List (List Int × Nat)) : List Int := ps.flatMap fun p => (List.replicate p.2 p.1).flatten
end FF

/-! FFLong: pieces of great times, by the laws' own going. -/
namespace FF
open PySem PySem.Spec L2
abbrev Ent := Int × Int × Int
end FF

/-! FFBehind3: pieces, orders. -/
namespace FF
open PySem PySem.Spec L2
/-! ### orders -/
theorem numAt_at {ms : List Int} {z : Int} (h : 0 ≤ z ∧ z < ms.length) : at? (ms.map D.int) z = some (.int (numAt ms z)) ∧ numAt ms z ∈ ms := by
  obtain ⟨j, rfl⟩ := Int.eq_ofNat_of_zero_le h.1
  have hj : j < ms.length := by omega
  have e : numAt ms (j : Int) = ms[j] := by
    unfold numAt
    rw [Int.toNat_natCast, List.getD_eq_getElem?_getD, List.getElem?_eq_getElem hj]
    rfl
  rw [e]
  refine ⟨?_, List.getElem_mem _⟩
  unfold at?
  refine atI_nat (j := j) ?_
  rw [List.getElem?_map, List.getElem?_eq_getElem hj]
  rfl
/-! ### what they are together -/
def rowO (os ms : List Int) : List Int := os.flatMap fun z => List.replicate (numAt ms z).toNat z
theorem range_num {n : Nat} (ms : List Int) (h : ms.length = n) : ((List.range n).map fun j : Nat => numAt ms (j : Int)) = ms := by
  subst h
  apply List.ext_getElem?
  intro i
  rw [List.getElem?_map]
  by_cases hi : i < ms.length
  · rw [List.getElem?_range hi]
    show some (numAt ms (i : Int)) = _
    unfold numAt
    rw [Int.toNat_natCast, List.getD_eq_getElem?_getD, List.getElem?_eq_getElem hi]; rfl
  · rw [List.getElem?_eq_none (by rw [List.length_range]; omega), List.getElem?_eq_none (by omega)]; rfl
theorem sum_len (ms : List Int) : ∀ os : List Int, (∀ z ∈ os, 0 ≤ numAt ms z) → ((rowO os ms).length : Int) = (os.map (numAt ms)).sum
  | [], _ => rfl
  | z :: os, h => by
    rw [rowO, List.flatMap_cons, List.length_append, List.length_replicate, List.map_cons, List.sum_cons, ← sum_len ms os fun z hz => h z (List.mem_cons_of_mem _ hz)]
    have := h z List.mem_cons_self
    show (((numAt ms z).toNat + (rowO os ms).length : Nat) : Int) = _
    omega
theorem row_rowOk {b : List (Int × Int)} {os ms : List Int} (hm : RecOk b ms) (hp : os.Perm ((List.range b.length).map fun j : Nat => (j : Int))) (hs : ms.sum ≤ 100) : RowOk b (rowO os ms) := by
  have hin : ∀ z ∈ os, 0 ≤ z ∧ z < b.length := fun z hz => turned_in hp hz
  have hn : ∀ z ∈ os, 0 ≤ numAt ms z ∧ numAt ms z ≤ T30 := fun z hz => hm.nat _ (numAt_at ⟨(hin z hz).1, by rw [hm.len]; exact (hin z hz).2⟩).2
  have hl := sum_len ms os fun z hz => (hn z hz).1
  have e : (os.map (numAt ms)).sum = ms.sum := by
    rw [perm_sum (numAt ms) hp, List.map_map]
    exact congrArg List.sum (range_num ms hm.len)
  rw [e] at hl
  refine ⟨?_, by omega, fun z hz => ?_⟩
  · have key : ∀ l : List Int, (∀ m ∈ l, 0 ≤ m) → 0 ≤ l.sum ∧ ((∃ m ∈ l, 0 < m) → 0 < l.sum) := by
      intro l
      induction l with
      | nil => intro _; exact ⟨by simp, fun ⟨m, h, _⟩ => absurd h (by simp)⟩
      | cons m l ih =>
        intro h
        obtain ⟨i1, i2⟩ := ih fun m hm => h m (List.mem_cons_of_mem _ hm)
        have h0 := h m List.mem_cons_self
        rw [List.sum_cons]
        refine ⟨by omega, fun ⟨x, hx, px⟩ => ?_⟩
        rcases List.mem_cons.mp hx with rfl | hx
        · omega
        · have := i2 ⟨x, hx, px⟩; omega
    have := (key ms fun m h => (hm.nat m h).1).2 hm.some'
    omega
  · unfold rowO at hz
    obtain ⟨y, hy, hz⟩ := List.mem_flatMap.mp hz
    rw [List.eq_of_mem_replicate hz]
    exact hin y hy
end FF

/-! FFFall: falling orders. -/
namespace FF
open PySem PySem.Spec L2
/-- the places that are left, ascending -/
def optL (n : Nat) (own : List Int) : List Int := (List.range n).filterMap fun j : Nat => if (j : Int) ∈ own then none else some (j : Int)
def ext (n : Nat) (own : List Int) : List (List Int) := (optL n own).map fun z => own ++ [z]
structure OrdOk (n t : Nat) (own : List Int) : Prop where
  len : own.length = t
  nodup : own.Nodup
  ins : ∀ z ∈ own, 0 ≤ z ∧ z < n
  left : (optL n own).length + t = n
/-! ### chosen as the greatest that is left -/
/-! ### a whole order falls just if it is so chosen -/
/-! ### how many -/
/-! ### by the defs -/
theorem flat_len {α β : Type} (f : α → List β) (c : Nat) : ∀ l : List α, (∀ a ∈ l, (f a).length ≤ c) → (l.flatMap f).length ≤ l.length * c
  | [], _ => by simp
  | a :: l, h => by
    rw [List.flatMap_cons, List.length_append, List.length_cons, Nat.add_mul, Nat.one_mul]
    have := h a List.mem_cons_self
    have := flat_len f c l fun x hx => h x (List.mem_cons_of_mem _ hx)
    omega
/-! ### the law's own -/
end FF

/-! FFBeatM: orders and rooms; a layout that no order meets. -/
namespace FF
open PySem PySem.Spec L2
abbrev rngI (n : Nat) : List Int := (List.range n).map fun j : Nat => (j : Int)
/-! ### what beats all orders -/
structure Beats (b : List (Int × Int)) (x y : Int) (many times : Nat) : Prop where
  hx : 0 ≤ x ∧ x < b.length
  hy : 0 ≤ y ∧ y < b.length
  lost : powI (roomI (kindAt b y)) ≤ lackI (kindAt b x)
  m0 : 1 ≤ many
  m1 : many ≤ 64
  back : (kindAt b x).2 ∣ many * roomI (kindAt b y) - powI (roomI (kindAt b y))
  often : lackI (kindAt b x) + lackI (kindAt b y) < times * powI (roomI (kindAt b y))
/-! ### it is there -/
end FF

/-! FFBeat: pieces and orders, laid by the laws and the package; what beats all orders. -/
namespace FF
open PySem PySem.Spec L2
/-! ### laps -/
end FF

/-! FFBeat2: wholes of pieces and of orders, all orders of some places. -/
namespace FF
open PySem PySem.Spec L2
/-! ### orders by the law -/
/-! ### all orders of some places -/
structure InP (ps : List Int) (t : Nat) (own : List Int) : Prop where
  len : own.length = t
  nodup : own.Nodup
  ins : ∀ z ∈ own, z ∈ ps
end FF

/-! FFEq: == of plain values. -/
namespace FF
open PySem PySem.Spec L2
end FF

/-! FFBeat3: the law's own layouts, judged by the package. -/
namespace FF
open PySem PySem.Spec L2
/-! ### what is a record, what are pieces -/
/-! ### the law's own layouts -/
/-! ### bounds -/
/-! ### beaten_holds -/
/-! ### any pair that shows that a book is not level -/
end FF

/-! FFDeck2: the decks of the laws of orders. -/
namespace FF
open PySem PySem.Spec L2
end FF

/-! FFLeast2: least wholes of records put together, of a field less, of kinds in another order, and orders. -/
namespace FF
open PySem PySem.Spec L2
/-- no order's row is below the least -/
theorem rowO_num {b : List (Int × Int)} {os ms : List Int} (hm : RecOk b ms) (hp : os.Perm ((List.range b.length).map fun j : Nat => (j : Int))) : numI b (rowO os ms) = ms := by
  have hp' : (rowO os ms).Perm (rowO ((List.range b.length).map fun j : Nat => (j : Int)) ms) := List.Perm.flatMap_right _ hp
  rw [numI_perm hp']
  have key : ∀ (i n : Nat), cnt (rowO ((List.range n).map fun j : Nat => (j : Int)) ms) i = if i < n then ((ms.getD i 0).toNat : Int) else 0 := by
    intro i n
    induction n with
    | zero => rw [if_neg (by omega)]; rfl
    | succ n ih =>
      unfold rowO at ih ⊢
      rw [List.range_succ, List.map_append, List.flatMap_append, cnt_app, ih]
      simp only [List.map_cons, List.map_nil, List.flatMap_cons, List.flatMap_nil, List.append_nil]
      rw [cnt_rep1]
      by_cases c : n = i
      · subst c
        rw [if_neg (by omega), if_pos rfl, if_pos (by omega)]
        show 0 + ((ms.getD (n : Int).toNat 0).toNat : Int) = _
        rw [Int.toNat_natCast]; omega
      · rw [if_neg (show ¬ (n : Int) = (i : Int) by omega)]
        by_cases d : i < n
        · rw [if_pos d, if_pos (by omega)]; omega
        · rw [if_neg d, if_neg (by omega)]; omega
  refine num_eq_of hm.len fun j hj => ?_
  rw [key, if_pos hj]
  have hj' : j < ms.length := by have := hm.len; omega
  have := (hm.nat (ms.getD j 0) (by rw [List.getD_eq_getElem?_getD, List.getElem?_eq_getElem hj']; exact List.getElem_mem hj')).1
  omega
/-! ### kinds at other places -/
structure TurnO (b : List (Int × Int)) (os : List Int) : Prop where
  perm : os.Perm ((List.range b.length).map fun j : Nat => (j : Int))
/-! ### put together -/
/-! ### a field less -/
end FF

namespace FF.k15
open PySem PySem.Spec PyProof.Rows L2 FF
def top (i : Nat) : Stmt := PySem.Challenge.pw_fallingfields_k15_whole_least_wholes_of.main.body.getD i (.Pass ⟨0, 0, 0, 0⟩)
abbrev s_q_law_deck : Stmt := top 15
def d_q_law_deck : Def := ⟨.live, 1, ["script", "cells", "stirred", "cell"], (.cons (.set (.tup (.cons (.name 1) (.cons (.name 2) .nil))) (.tup (.cons (.comp false (.name 3) (.ex (.slice (.var 0) .no (.yes (.const (.int 63))))) .nil (.ife (.cmp .GtE (.var 3) (.const (.int 0))) (.bin .Mult false (.const (.int 2)) (.var 3)) (.bin .Sub false (.bin .Mult false (.neg (.const (.int 2))) (.var 3)) (.const (.int 1)))) [3]) (.cons (.bin .Add false (.const (.int 99015)) (.bi .len false (.cons (.var 0) .nil))) .nil)))) (.cons (.for (.name 3) (.ex (.var 1)) (.cons (.set (.name 2) (.bin .Mod false (.bi .int false (.cons (.bin .Add false (.bin .Mult false (.var 2) (.const (.int 48271))) (.var 3)) .nil)) (.const (.int 4294967291)))) .nil)) (.cons (.ret (.lst true (.cons (.comp true (.name 3) (.ex (.var 1)) (.cons (.cmp .GtE (.var 3) (.bin .Pow false (.const (.int 10)) (.const (.int 15)))) .nil) (.var 3) [3]) (.cons (.var 2) (.cons (.const (.int 0)) .nil))))) .nil)))⟩
abbrev s_q_law_draw : Stmt := top 16
def d_q_law_draw : Def := ⟨.trim, 2, ["deck", "many", "cell", "mixed"], (.cons (.ite (.cmp .NotEq (.ix (.var 0) (.const (.int 0))) (.lst false .nil)) (.cons (.set (.name 2) (.ix (.ix (.var 0) (.const (.int 0))) (.const (.int 0)))) (.cons (.setIx (.ix (.var 0) (.const (.int 0))) (.const (.int 0)) (.bin .FloorDiv false (.var 2) (.var 1))) (.cons (.ite (.cmp .Lt (.var 2) (.var 1)) (.cons (.expr (.me .popAt (.ix (.var 0) (.const (.int 0))) (.cons (.const (.int 0)) .nil))) .nil) .nil) (.cons (.ret (.bin .Mod false (.bi .int false (.cons (.var 2) .nil)) (.var 1))) .nil)))) .nil) (.cons (.setIx (.var 0) (.const (.int 2)) (.bin .Add false (.ix (.var 0) (.const (.int 2))) (.const (.int 1)))) (.cons (.set (.name 3) (.bin .Mod false (.bi .int false (.cons (.bin .Add false (.ix (.var 0) (.const (.int 1))) (.bin .Mult false (.const (.int 2654435761)) (.ix (.var 0) (.const (.int 2))))) .nil)) (.const (.int 4294967291)))) (.cons (.set (.name 3) (.bin .Mod false (.bi .int false (.cons (.bin .Add false (.bin .Add false (.bin .Mult false (.var 3) (.var 3)) (.bin .Mult false (.const (.int 40503)) (.ix (.var 0) (.const (.int 2))))) (.const (.int 11))) .nil)) (.const (.int 4294967279)))) (.cons (.set (.name 3) (.bin .Mod false (.bi .int false (.cons (.bin .Add false (.bin .Mult false (.var 3) (.var 3)) (.ix (.var 0) (.const (.int 1)))) .nil)) (.const (.int 4294967231)))) (.cons (.ret (.bin .Mod false (.bi .int false (.cons (.bin .FloorDiv false (.var 3) (.const (.int 64))) .nil)) (.var 1))) .nil))))))⟩
abbrev s_q_law_record : Stmt := top 30
def d_q_law_record : Def := ⟨.trim, 3, ["deck", "book", "many", "found", "turn", "place"], (.cons (.set (.name 3) (.bin .Mult true (.lst false (.cons (.const (.int 0)) .nil)) (.bi .len false (.cons (.var 1) .nil)))) (.cons (.for (.name 4) (.range1 (.var 2)) (.cons (.set (.name 5) (.call 53 (.cons (.var 0) (.cons (.bi .len false (.cons (.var 1) .nil)) .nil)))) (.cons (.setIx (.var 3) (.var 5) (.bin .Add false (.ix (.var 3) (.var 5)) (.const (.int 1)))) .nil))) (.cons (.ret (.bi .tuple false (.cons (.var 3) .nil))) .nil)))⟩
abbrev s_q_law_up : Stmt := top 19
def d_q_law_up : Def := ⟨.pure, 2, ["number", "step"], (.cons (.ret (.bin .Mult false (.neg (.bin .FloorDiv false (.neg (.var 0)) (.var 1))) (.var 1))) .nil)⟩
abbrev s_q_law_wide : Stmt := top 27
def d_q_law_wide : Def := ⟨.pure, 2, ["book", "places", "place"], (.cons (.ret (.bi .max false (.cons (.comp false (.name 2) (.ex (.var 1)) .nil (.ix (.ix (.var 0) (.var 2)) (.const (.int 1))) [2]) .nil))) .nil)⟩
abbrev s_q_law_least : Stmt := top 28
def d_q_law_least : Def := ⟨.pure, 2, ["book", "record", "states", "turn", "elder", "left", "end", "place", "further", "many"], (.cons (.set (.name 2) (.dispN (.tup (.cons (.var 1) (.cons (.const (.int 0)) .nil))) (.const (.bl true)))) (.cons (.for (.name 3) (.range1 (.bi .sum false (.cons (.var 1) .nil))) (.cons (.set (.tup (.cons (.name 4) (.cons (.name 2) .nil))) (.tup (.cons (.listN false (.var 2)) (.cons .newN .nil)))) (.cons (.for (.tup (.cons (.name 5) (.cons (.name 6) .nil))) (.ex (.var 4)) (.cons (.for (.name 7) (.range1 (.bi .len false (.cons (.var 0) .nil))) (.cons (.ite (.cmp .Gt (.ix (.var 5) (.var 7)) (.const (.int 0))) (.cons (.set (.name 8) (.bin .Add false (.bin .Add false (.slice (.var 5) .no (.yes (.var 7))) (.tup (.cons (.bin .Sub false (.ix (.var 5) (.var 7)) (.const (.int 1))) .nil))) (.slice (.var 5) (.yes (.bin .Add false (.var 7) (.const (.int 1)))) .no))) (.cons (.setN (.var 2) (.tup (.cons (.var 8) (.cons (.bin .Add false (.call 61 (.cons (.var 6) (.cons (.ix (.ix (.var 0) (.var 7)) (.const (.int 1))) .nil))) (.ix (.ix (.var 0) (.var 7)) (.const (.int 0)))) .nil))) (.const (.bl true))) .nil)) .nil) .nil)) .nil)) .nil))) (.cons (.set (.name 6) (.bi .min false (.cons (.sndN false 5 6 (.var 2)) .nil))) (.cons (.ret (.call 61 (.cons (.var 6) (.cons (.call 208 (.cons (.var 0) (.cons (.comp false (.tup (.cons (.name 7) (.cons (.name 9) .nil))) (.enum (.ex (.var 1))) (.cons (.cmp .Gt (.var 9) (.const (.int 0))) .nil) (.var 7) [7, 9]) .nil))) .nil)))) .nil))))⟩
abbrev s_q_law_pick : Stmt := top 17
def d_q_law_pick : Def := ⟨.trim, 2, ["deck", "items"], (.cons (.ret (.ix (.var 1) (.call 53 (.cons (.var 0) (.cons (.bi .len false (.cons (.var 1) .nil)) .nil))))) .nil)⟩
abbrev s_q_law_kind : Stmt := top 24
def d_q_law_kind : Def := ⟨.trim, 5, ["deck", "unit", "lack", "alignment", "is_great", "step", "many"], (.cons (.set (.name 5) (.bi .max2 false (.cons (.var 1) (.cons (.var 3) .nil)))) (.cons (.set (.name 6) (.bin .Add false (.const (.int 1)) (.call 53 (.cons (.var 0) (.cons (.const (.int 5)) .nil))))) (.cons (.ite (.var 4) (.cons (.set (.name 6) (.bin .Sub false (.bin .FloorDiv false (.bin .Pow false (.const (.int 10)) (.const (.int 30))) (.var 5)) (.call 53 (.cons (.var 0) (.cons (.const (.int 3)) .nil))))) .nil) .nil) (.cons (.ret (.tup (.cons (.bi .max2 false (.cons (.const (.int 1)) (.cons (.bin .Sub false (.bin .Mult false (.var 6) (.var 5)) (.var 2)) .nil))) (.cons (.var 3) .nil)))) .nil))))⟩
abbrev s_q_law_level : Stmt := top 25
def d_q_law_level : Def := ⟨.trim, 2, ["deck", "kinds", "unit", "found", "is_great", "turn", "alignment", "most", "lack"], (.cons (.set (.tup (.cons (.name 2) (.cons (.name 3) .nil))) (.tup (.cons (.bin .LShift false (.const (.int 1)) (.call 53 (.cons (.var 0) (.cons (.const (.int 6)) .nil)))) (.cons (.lst true .nil) .nil)))) (.cons (.set (.name 4) (.cmp .Eq (.call 53 (.cons (.var 0) (.cons (.const (.int 6)) .nil))) (.const (.int 0)))) (.cons (.for (.name 5) (.range1 (.var 1)) (.cons (.set (.name 6) (.bin .LShift false (.const (.int 1)) (.call 53 (.cons (.var 0) (.cons (.const (.int 7)) .nil))))) (.cons (.set (.name 7) (.bin .Sub false (.bi .min2 false (.cons (.var 2) (.cons (.var 6) .nil))) (.const (.int 1)))) (.cons (.set (.name 8) (.call 54 (.cons (.var 0) (.cons (.lst false (.cons (.const (.int 0)) (.cons (.var 7) (.cons (.call 53 (.cons (.var 0) (.cons (.bin .Add false (.var 7) (.const (.int 1))) .nil))) .nil)))) .nil)))) (.cons (.expr (.me .append (.var 3) (.cons (.call 55 (.cons (.var 0) (.cons (.var 2) (.cons (.var 8) (.cons (.var 6) (.cons (.andV (.var 4) (.cmp .Eq (.call 53 (.cons (.var 0) (.cons (.const (.int 2)) .nil))) (.const (.int 0)))) .nil)))))) .nil))) .nil))))) (.cons (.ret (.tup (.cons (.bi .tuple false (.cons (.var 3) .nil)) (.cons (.var 2) .nil)))) .nil))))⟩
abbrev s_q_law_mixed : Stmt := top 18
def d_q_law_mixed : Def := ⟨.trim, 2, ["deck", "items", "rest", "found"], (.cons (.set (.tup (.cons (.name 2) (.cons (.name 3) .nil))) (.tup (.cons (.bi .list true (.cons (.var 1) .nil)) (.cons (.lst true .nil) .nil)))) (.cons (.while (.cmp .NotEq (.var 2) (.lst false .nil)) (.cons (.expr (.me .append (.var 3) (.cons (.me .popAt (.var 2) (.cons (.call 53 (.cons (.var 0) (.cons (.bi .len false (.cons (.var 2) .nil)) .nil))) .nil)) .nil))) .nil)) (.cons (.ret (.var 3)) .nil)))⟩
abbrev s_q_law_just : Stmt := top 26
def d_q_law_just : Def := ⟨.trim, 2, ["deck", "kinds", "book", "unit", "alignment", "lack", "found"], (.cons (.set (.tup (.cons (.name 2) (.cons (.name 3) .nil))) (.call 56 (.cons (.var 0) (.cons (.var 1) .nil)))) (.cons (.set (.name 3) (.bi .min2 false (.cons (.var 3) (.cons (.const (.int 32)) .nil)))) (.cons (.set (.name 4) (.bin .Mult false (.var 3) (.call 54 (.cons (.var 0) (.cons (.lst false (.cons (.const (.int 2)) (.cons (.const (.int 2)) (.cons (.bin .FloorDiv false (.const (.int 64)) (.var 3)) .nil)))) .nil))))) (.cons (.set (.name 5) (.call 54 (.cons (.var 0) (.cons (.lst false (.cons (.var 3) (.cons (.var 3) (.cons (.bin .Sub false (.var 3) (.const (.int 1))) (.cons (.bin .Sub false (.var 4) (.const (.int 1))) .nil))))) .nil)))) (.cons (.set (.name 6) (.bin .Add true (.slice (.bi .list false (.cons (.var 2) .nil)) .no (.yes (.const (.int 4)))) (.lst false (.cons (.tup (.cons (.bin .Sub false (.bin .Mult false (.var 3) (.bin .Add false (.const (.int 1)) (.bin .Mult false (.const (.int 2)) (.call 53 (.cons (.var 0) (.cons (.const (.int 4)) .nil)))))) (.call 53 (.cons (.var 0) (.cons (.bi .min2 false (.cons (.var 3) (.cons (.const (.int 2)) .nil))) .nil)))) (.cons (.const (.int 1)) .nil))) .nil)))) (.cons (.expr (.me .append (.var 6) (.cons (.call 55 (.cons (.var 0) (.cons (.var 3) (.cons (.var 5) (.cons (.var 4) (.cons (.cmp .Eq (.call 53 (.cons (.var 0) (.cons (.const (.int 8)) .nil))) (.const (.int 0))) .nil)))))) .nil))) (.cons (.ret (.bi .tuple false (.cons (.call 57 (.cons (.var 0) (.cons (.var 6) .nil))) .nil))) .nil)))))))⟩
abbrev s_q_law_room : Stmt := top 20
def d_q_law_room : Def := ⟨.pure, 1, ["kind"], (.cons (.ret (.call 61 (.cons (.ix (.var 0) (.const (.int 0))) (.cons (.ix (.var 0) (.const (.int 1))) .nil)))) .nil)⟩
abbrev s_q_law_lack : Stmt := top 21
def d_q_law_lack : Def := ⟨.pure, 1, ["kind"], (.cons (.ret (.bin .Sub false (.call 62 (.cons (.var 0) .nil)) (.ix (.var 0) (.const (.int 0))))) .nil)⟩
abbrev s_q_law_power : Stmt := top 22
def d_q_law_power : Def := ⟨.pure, 1, ["number"], (.cons (.ret (.bin .BitAnd false (.var 0) (.neg (.var 0)))) .nil)⟩
abbrev s_q_law_pair : Stmt := top 23
def d_q_law_pair : Def := ⟨.pure, 1, ["book", "x", "one", "y", "other"], (.cons (.for (.tup (.cons (.name 1) (.cons (.name 2) .nil))) (.enum (.ex (.var 0))) (.cons (.for (.tup (.cons (.name 3) (.cons (.name 4) .nil))) (.enum (.ex (.var 0))) (.cons (.ite (.cmp .GtE (.call 63 (.cons (.var 2) .nil)) (.call 64 (.cons (.call 62 (.cons (.var 4) .nil)) .nil))) (.cons (.ret (.tup (.cons (.var 1) (.cons (.var 3) .nil)))) .nil) .nil) .nil)) .nil)) (.cons (.ret (.const .non)) .nil))⟩
abbrev s_q_law_row_whole : Stmt := top 29
def d_q_law_row_whole : Def := ⟨.pure, 2, ["book", "row", "end", "place"], (.cons (.set (.name 2) (.const (.int 0))) (.cons (.for (.name 3) (.ex (.var 1)) (.cons (.set (.name 2) (.bin .Add false (.call 61 (.cons (.var 2) (.cons (.ix (.ix (.var 0) (.var 3)) (.const (.int 1))) .nil))) (.ix (.ix (.var 0) (.var 3)) (.const (.int 0))))) .nil)) (.cons (.ret (.call 61 (.cons (.var 2) (.cons (.call 208 (.cons (.var 0) (.cons (.var 1) .nil))) .nil)))) .nil)))⟩
abbrev s_power : Stmt := top 6
def d_power : Def := ⟨.pure, 1, ["number"], (.cons (.ret (.bin .BitAnd false (.var 0) (.neg (.var 0)))) .nil)⟩
abbrev s_raised : Stmt := top 1
def d_raised : Def := ⟨.pure, 2, ["number", "step"], (.cons (.ret (.bin .Mult false (.neg (.bin .FloorDiv false (.neg (.var 0)) (.var 1))) (.var 1))) .nil)⟩
abbrev s_room : Stmt := top 7
def d_room : Def := ⟨.pure, 1, ["kind"], (.cons (.ret (.call 9 (.cons (.ix (.var 0) (.const (.int 0))) (.cons (.ix (.var 0) (.const (.int 1))) .nil)))) .nil)⟩
abbrev s_lacks : Stmt := top 9
def d_lacks : Def := ⟨.pure, 1, ["book", "kind"], (.cons (.ret (.bi .tuple false (.cons (.comp false (.name 1) (.ex (.var 0)) .nil (.bin .Sub false (.call 37 (.cons (.var 1) .nil)) (.ix (.var 1) (.const (.int 0)))) [1]) .nil))) .nil)⟩
abbrev s_rooms : Stmt := top 8
def d_rooms : Def := ⟨.pure, 1, ["book", "kind"], (.cons (.ret (.bi .tuple false (.cons (.comp false (.name 1) (.ex (.var 0)) .nil (.call 37 (.cons (.var 1) .nil)) [1]) .nil))) .nil)⟩
abbrev s_level_error : Stmt := top 13
def d_level_error : Def := ⟨.pure, 1, ["book", "powers", "x", "lack", "y", "own", "room"], (.cons (.set (.name 1) (.comp false (.name 6) (.ex (.call 38 (.cons (.var 0) .nil))) .nil (.call 40 (.cons (.var 6) .nil)) [6])) (.cons (.for (.tup (.cons (.name 2) (.cons (.name 3) .nil))) (.enum (.ex (.call 39 (.cons (.var 0) .nil)))) (.cons (.for (.tup (.cons (.name 4) (.cons (.name 5) .nil))) (.enum (.ex (.var 1))) (.cons (.ite (.cmp .GtE (.var 3) (.var 5)) (.cons (.ret (.tup (.cons (.var 2) (.cons (.var 4) .nil)))) .nil) .nil) .nil)) .nil)) (.cons (.ret (.const .non)) .nil)))⟩
abbrev s_greatest_alignment : Stmt := top 2
def d_greatest_alignment : Def := ⟨.pure, 2, ["book", "places", "place"], (.cons (.ret (.bi .max false (.cons (.comp false (.name 2) (.ex (.var 1)) .nil (.ix (.ix (.var 0) (.var 2)) (.const (.int 1))) [2]) .nil))) .nil)⟩
abbrev s_places_of : Stmt := top 10
def d_places_of : Def := ⟨.pure, 1, ["record", "place", "many"], (.cons (.ret (.comp false (.tup (.cons (.name 1) (.cons (.name 2) .nil))) (.enum (.ex (.var 0))) (.cons (.cmp .Gt (.var 2) (.const (.int 0))) .nil) (.var 1) [1, 2])) .nil)⟩
abbrev s_rooms_whole : Stmt := top 11
def d_rooms_whole : Def := ⟨.pure, 2, ["book", "record", "total", "many", "own"], (.cons (.set (.name 2) (.bi .sum false (.cons (.comp false (.tup (.cons (.name 3) (.cons (.name 4) .nil))) (.zip (.var 1) (.call 38 (.cons (.var 0) .nil))) .nil (.bin .Mult false (.var 3) (.var 4)) [3, 4]) .nil))) (.cons (.ret (.call 9 (.cons (.var 2) (.cons (.call 11 (.cons (.var 0) (.cons (.call 42 (.cons (.var 1) .nil)) .nil))) .nil)))) .nil))⟩
abbrev s_laid : Stmt := top 3
def d_laid : Def := ⟨.pure, 2, ["book", "row", "found", "end", "place", "size", "alignment", "begin"], (.cons (.set (.tup (.cons (.name 2) (.cons (.name 3) .nil))) (.tup (.cons (.lst true .nil) (.cons (.const (.int 0)) .nil)))) (.cons (.for (.name 4) (.ex (.var 1)) (.cons (.set (.tup (.cons (.name 5) (.cons (.name 6) .nil))) (.ix (.var 0) (.var 4))) (.cons (.set (.name 7) (.call 9 (.cons (.var 3) (.cons (.var 6) .nil)))) (.cons (.set (.name 3) (.bin .Add false (.var 7) (.var 5))) (.cons (.expr (.me .append (.var 2) (.cons (.tup (.cons (.var 7) (.cons (.var 3) .nil))) .nil))) .nil))))) (.cons (.ret (.bi .tuple false (.cons (.var 2) .nil))) .nil)))⟩
abbrev s_row_whole : Stmt := top 4
def d_row_whole : Def := ⟨.pure, 2, ["book", "row"], (.cons (.ret (.call 9 (.cons (.ix (.ix (.call 10 (.cons (.var 0) (.cons (.var 1) .nil))) (.neg (.const (.int 1)))) (.const (.int 1))) (.cons (.call 11 (.cons (.var 0) (.cons (.var 1) .nil))) .nil)))) .nil)⟩
abbrev s_law : Stmt := top 31
def d_law : Def := ⟨.pure, 1, ["script", "deck", "turn", "book", "is_level", "record", "least", "places", "place", "many", "nth", "row", "due"], (.cons (.set (.name 1) (.call 206 (.cons (.var 0) .nil))) (.cons (.for (.name 2) (.range1 (.const (.int 4))) (.cons (.set (.name 3) (.ife (.cmp .Lt (.var 2) (.const (.int 3))) (.ix (.call 56 (.cons (.var 1) (.cons (.bin .Add false (.const (.int 1)) (.call 53 (.cons (.var 1) (.cons (.const (.int 6)) .nil)))) .nil))) (.const (.int 0))) (.call 58 (.cons (.var 1) (.cons (.const (.int 3)) .nil))))) (.cons (.set (.name 4) (.cmp .Is (.call 65 (.cons (.var 3) .nil)) (.const .non))) (.cons (.ite (.cmp .NotEq (.cmp .Is (.call 60 (.cons (.var 3) .nil)) (.const .non)) (.var 4)) (.cons (.ret (.const (.bl false))) .nil) .nil) (.cons (.set (.name 5) (.call 207 (.cons (.var 1) (.cons (.var 3) (.cons (.call 54 (.cons (.var 1) (.cons (.lst false (.cons (.const (.int 1)) (.cons (.const (.int 2)) (.cons (.const (.int 3)) (.cons (.const (.int 4)) (.cons (.const (.int 5)) (.cons (.const (.int 6)) .nil))))))) .nil))) .nil))))) (.cons (.set (.name 6) (.call 209 (.cons (.var 3) (.cons (.var 5) .nil)))) (.cons (.ite (.andV (.var 4) (.cmp .NotEq (.bi .repr false (.cons (.call 48 (.cons (.var 3) (.cons (.var 5) .nil))) .nil)) (.bi .repr false (.cons (.var 6) .nil)))) (.cons (.ret (.const (.bl false))) .nil) .nil) (.cons (.set (.name 7) (.lst false .nil)) (.cons (.for (.tup (.cons (.name 8) (.cons (.name 9) .nil))) (.enum (.ex (.var 5))) (.cons (.set (.name 7) (.bin .Add false (.var 7) (.bin .Mult false (.lst false (.cons (.var 8) .nil)) (.var 9)))) .nil)) (.cons (.for (.name 10) (.range1 (.const (.int 4))) (.cons (.set (.name 11) (.bi .tuple false (.cons (.call 57 (.cons (.var 1) (.cons (.var 7) .nil))) .nil))) (.cons (.set (.name 12) (.call 210 (.cons (.var 3) (.cons (.var 11) .nil)))) (.cons (.ite (.orV (.cmp .NotEq (.bi .repr false (.cons (.call 12 (.cons (.var 3) (.cons (.var 11) .nil))) .nil)) (.bi .repr false (.cons (.var 12) .nil))) (.cmp .Lt (.var 12) (.var 6))) (.cons (.ret (.const (.bl false))) .nil) .nil) (.cons (.ite (.andV (.var 4) (.cmp .Gt (.call 48 (.cons (.var 3) (.cons (.var 5) .nil))) (.var 12))) (.cons (.ret (.const (.bl false))) .nil) .nil) .nil))))) .nil)))))))))) (.cons (.ret (.const (.bl true))) .nil)))⟩
def tbl : List (Nat × Def) := [(206, d_q_law_deck), (53, d_q_law_draw), (207, d_q_law_record), (61, d_q_law_up), (208, d_q_law_wide), (209, d_q_law_least), (54, d_q_law_pick), (55, d_q_law_kind), (56, d_q_law_level), (57, d_q_law_mixed), (58, d_q_law_just), (62, d_q_law_room), (63, d_q_law_lack), (64, d_q_law_power), (65, d_q_law_pair), (210, d_q_law_row_whole), (40, d_power), (9, d_raised), (37, d_room), (39, d_lacks), (38, d_rooms), (60, d_level_error), (11, d_greatest_alignment), (42, d_places_of), (48, d_rooms_whole), (10, d_laid), (12, d_row_whole), (211, d_law)]
section
variable {P : Program} {w : World} {K : PySem.W.Frag} {mg : Str → Option Value} {base : Heap}
theorem S_q_law_deck : FnScope ["script", "cells", "stirred", "cell"] ["script"] (defScope s_q_law_deck) := C8.fnScope_by (by decide +kernel)
theorem b_q_law_deck {k : Nat} {φ : Fn}  (m_len : mg "len" = none) (m_int : mg "int" = none)   (f : Addr) (cdv : Value) (A : Around) (outer : List Env) (s : Shared) (H : Hp) (hgd : A.guards = some []) (hr : Room k (A.deeper (envOfC "_law_deck" (defScope s_q_law_deck) s.heap.objs.size f cdv))) :
    SB (Xb P w K mg base ["script", "cells", "stirred", "cell"] "_law_deck" (defScope s_q_law_deck) f cdv A outer s H) (EK.none K) (defBody s_q_law_deck) (exB φ d_q_law_deck.body) := by
  have nd : (["script", "cells", "stirred", "cell"] : List Str).Nodup := by decide +kernel
  refine FF.w_cons ?_ ?_
  refine FF.w_par rfl (by assumption) (by rfl) (by rfl) (by decide) (by rfl) (by rfl) ?_ (by rfl) (by rfl)
  refine FF.w_acons ?_ ?_ (by rfl)
  refine FF.w_comp rfl (by assumption) ?_ (by kernel_rfl) (fun _ _ _ _ _ => ?_) (fun _ _ _ _ _ => ?_) (fun _ _ _ _ _ => ?_) (by intro _; rfl) (by decide)
  refine FF.w_iex ?_
  refine FF.w_slice ?_ ?_ ?_
  exact FF.w_var rfl (by first | exact .inl rfl | exact .inr (.inl rfl) | exact .inr (.inr rfl)) (by decide) (by decide)
  exact FF.w_no
  refine FF.w_yes ?_
  exact FF.w_int
  exact FF.sg_name (by assumption) rfl (by first | exact .inl rfl | exact .inr rfl) (by first | exact .inl rfl | exact .inr rfl)
  exact FF.w_ifs0
  refine FF.w_if ?_ ?_ ?_
  refine FF.w_tcmp (by exact FF.un_of ‹Room _ _› (by decide)) ?_ ?_ (by rfl)
  exact FF.w_var rfl (by first | exact .inl rfl | exact .inr (.inl rfl) | exact .inr (.inr rfl)) (by decide) (by decide)
  exact FF.w_int
  refine FF.w_bin ?_ ?_
  exact FF.w_int
  exact FF.w_var rfl (by first | exact .inl rfl | exact .inr (.inl rfl) | exact .inr (.inr rfl)) (by decide) (by decide)
  refine FF.w_bin ?_ ?_
  refine FF.w_bin ?_ ?_
  refine FF.w_neg ?_
  exact FF.w_int
  exact FF.w_var rfl (by first | exact .inl rfl | exact .inr (.inl rfl) | exact .inr (.inr rfl)) (by decide) (by decide)
  exact FF.w_int
  refine FF.w_acons ?_ ?_ (by rfl)
  refine FF.w_bin ?_ ?_
  exact FF.w_int
  refine FF.w_cb FF.cb_len (by rfl) (by assumption) PySem.boot_len ?_ (by decide) (by decide) (by rfl) (by rfl)
  refine FF.w_acons ?_ ?_ (by rfl)
  exact FF.w_var rfl (by first | exact .inl rfl | exact .inr (.inl rfl) | exact .inr (.inr rfl)) (by decide) (by decide)
  exact FF.w_anil
  exact FF.w_anil
  refine FF.w_cons ?_ ?_
  refine FF.w_for rfl PassesOwn.never ?_ ?_ ?_ (by intro _; rfl)
  refine FF.w_iex ?_
  exact FF.w_var rfl (by first | exact .inl rfl | exact .inr (.inl rfl) | exact .inr (.inr rfl)) (by decide) (by decide)
  exact FF.sg_name (by assumption) rfl (by first | exact .inl rfl | exact .inr rfl) (by first | exact .inl rfl | exact .inr rfl)
  refine FF.w_cons ?_ ?_
  refine FF.w_asg ?_ ?_ (by rfl) (by rfl) (by rfl)
  refine FF.w_bin ?_ ?_
  refine FF.w_ct FF.cb_int (by rfl) (by assumption) PyProof.Rows.boot_int ?_ (by decide) (by decide) (by rfl) (by rfl)
  refine FF.w_acons ?_ ?_ (by rfl)
  refine FF.w_bin ?_ ?_
  refine FF.w_bin ?_ ?_
  exact FF.w_var rfl (by first | exact .inl rfl | exact .inr (.inl rfl) | exact .inr (.inr rfl)) (by decide) (by decide)
  exact FF.w_int
  exact FF.w_var rfl (by first | exact .inl rfl | exact .inr (.inl rfl) | exact .inr (.inr rfl)) (by decide) (by decide)
  exact FF.w_anil
  exact FF.w_int
  exact FF.sg_name (by assumption) rfl (by first | exact .inl rfl | exact .inr rfl) (by first | exact .inl rfl | exact .inr rfl)
  exact FF.w_nil
  refine FF.w_cons ?_ ?_
  refine FF.w_ret ?_
  refine FF.w_lst ?_
  refine FF.w_acons ?_ ?_ (by rfl)
  refine FF.w_comp rfl (by assumption) ?_ (by kernel_rfl) (fun _ _ _ _ _ => ?_) (fun _ _ _ _ _ => ?_) (fun _ _ _ _ _ => ?_) (by intro _; rfl) (by decide)
  refine FF.w_iex ?_
  exact FF.w_var rfl (by first | exact .inl rfl | exact .inr (.inl rfl) | exact .inr (.inr rfl)) (by decide) (by decide)
  exact FF.sg_name (by assumption) rfl (by first | exact .inl rfl | exact .inr rfl) (by first | exact .inl rfl | exact .inr rfl)
  refine FF.w_ifs1 ?_
  refine FF.w_tcmp (by exact FF.un_of ‹Room _ _› (by decide)) ?_ ?_ (by rfl)
  exact FF.w_var rfl (by first | exact .inl rfl | exact .inr (.inl rfl) | exact .inr (.inr rfl)) (by decide) (by decide)
  refine FF.w_bin ?_ ?_
  exact FF.w_int
  exact FF.w_int
  exact FF.w_var rfl (by first | exact .inl rfl | exact .inr (.inl rfl) | exact .inr (.inr rfl)) (by decide) (by decide)
  refine FF.w_acons ?_ ?_ (by rfl)
  exact FF.w_var rfl (by first | exact .inl rfl | exact .inr (.inl rfl) | exact .inr (.inr rfl)) (by decide) (by decide)
  refine FF.w_acons ?_ ?_ (by rfl)
  exact FF.w_int
  exact FF.w_anil
  exact FF.w_nil
theorem S_q_law_draw : FnScope ["deck", "many", "cell", "mixed"] ["deck", "many"] (defScope s_q_law_draw) := C8.fnScope_by (by decide +kernel)
theorem b_q_law_draw {k : Nat} {φ : Fn}  (m_int : mg "int" = none)   (f : Addr) (cdv : Value) (A : Around) (outer : List Env) (s : Shared) (H : Hp) (hgd : A.guards = some []) (hr : Room k (A.deeper (envOfC "_law_draw" (defScope s_q_law_draw) s.heap.objs.size f cdv))) :
    SB (Xb P w K mg base ["deck", "many", "cell", "mixed"] "_law_draw" (defScope s_q_law_draw) f cdv A outer s H) (EK.none K) (defBody s_q_law_draw) (exB φ d_q_law_draw.body) := by
  have nd : (["deck", "many", "cell", "mixed"] : List Str).Nodup := by decide +kernel
  refine FF.w_cons ?_ ?_
  refine FF.w_ite ?_ ?_ ?_
  refine FF.w_tcmp (by exact FF.un_of ‹Room _ _› (by decide)) ?_ ?_ (by rfl)
  refine FF.w_ix (by exact FF.un_of ‹Room _ _› (by decide)) ?_ ?_ (fun _ _ => rfl)
  exact FF.w_var rfl (by first | exact .inl rfl | exact .inr (.inl rfl) | exact .inr (.inr rfl)) (by decide) (by decide)
  exact FF.w_int
  refine FF.w_lst ?_
  exact FF.w_anil
  refine FF.w_cons ?_ ?_
  refine FF.w_asg ?_ ?_ (by rfl) (by rfl) (by rfl)
  refine FF.w_ix (by exact FF.un_of ‹Room _ _› (by decide)) ?_ ?_ (fun _ _ => rfl)
  refine FF.w_ix (by exact FF.un_of ‹Room _ _› (by decide)) ?_ ?_ (fun _ _ => rfl)
  exact FF.w_var rfl (by first | exact .inl rfl | exact .inr (.inl rfl) | exact .inr (.inr rfl)) (by decide) (by decide)
  exact FF.w_int
  exact FF.w_int
  exact FF.sg_name (by assumption) rfl (by first | exact .inl rfl | exact .inr rfl) (by first | exact .inl rfl | exact .inr rfl)
  refine FF.w_cons ?_ ?_
  refine FF.w_setIx (by exact FF.un_of ‹Room _ _› (by decide)) ?_ ?_ ?_ (by rfl) (by rfl) (by rfl) (by intro _; rfl)
  refine FF.w_bin ?_ ?_
  exact FF.w_var rfl (by first | exact .inl rfl | exact .inr (.inl rfl) | exact .inr (.inr rfl)) (by decide) (by decide)
  exact FF.w_var rfl (by first | exact .inl rfl | exact .inr (.inl rfl) | exact .inr (.inr rfl)) (by decide) (by decide)
  refine FF.w_ix (by exact FF.un_of ‹Room _ _› (by decide)) ?_ ?_ (fun _ _ => rfl)
  exact FF.w_var rfl (by first | exact .inl rfl | exact .inr (.inl rfl) | exact .inr (.inr rfl)) (by decide) (by decide)
  exact FF.w_int
  exact FF.w_int
  refine FF.w_cons ?_ ?_
  refine FF.w_ite ?_ ?_ ?_
  refine FF.w_tcmp (by exact FF.un_of ‹Room _ _› (by decide)) ?_ ?_ (by rfl)
  exact FF.w_var rfl (by first | exact .inl rfl | exact .inr (.inl rfl) | exact .inr (.inr rfl)) (by decide) (by decide)
  exact FF.w_var rfl (by first | exact .inl rfl | exact .inr (.inl rfl) | exact .inr (.inr rfl)) (by decide) (by decide)
  refine FF.w_cons ?_ ?_
  refine FF.w_expr ?_ (by rfl)
  refine FF.w_bm PySem.F.slot_list_pop PySem.F.type_list_pop FF.mt_popAtD FF.fit_popAt (fun _ _ _ => rfl) ?_ ?_ (by rfl) (by rfl) (by rfl) (by rfl) (by rfl)
  refine FF.w_ix (by exact FF.un_of ‹Room _ _› (by decide)) ?_ ?_ (fun _ _ => rfl)
  exact FF.w_var rfl (by first | exact .inl rfl | exact .inr (.inl rfl) | exact .inr (.inr rfl)) (by decide) (by decide)
  exact FF.w_int
  refine FF.w_acons ?_ ?_ (by rfl)
  exact FF.w_int
  exact FF.w_anil
  exact FF.w_nil
  exact FF.w_nil
  refine FF.w_cons ?_ ?_
  refine FF.w_ret ?_
  refine FF.w_bin ?_ ?_
  refine FF.w_ct FF.cb_int (by rfl) (by assumption) PyProof.Rows.boot_int ?_ (by decide) (by decide) (by rfl) (by rfl)
  refine FF.w_acons ?_ ?_ (by rfl)
  exact FF.w_var rfl (by first | exact .inl rfl | exact .inr (.inl rfl) | exact .inr (.inr rfl)) (by decide) (by decide)
  exact FF.w_anil
  exact FF.w_var rfl (by first | exact .inl rfl | exact .inr (.inl rfl) | exact .inr (.inr rfl)) (by decide) (by decide)
  exact FF.w_nil
  exact FF.w_nil
  refine FF.w_cons ?_ ?_
  refine FF.w_setIx (by exact FF.un_of ‹Room _ _› (by decide)) ?_ ?_ ?_ (by rfl) (by rfl) (by rfl) (by intro _; rfl)
  refine FF.w_bin ?_ ?_
  refine FF.w_ix (by exact FF.un_of ‹Room _ _› (by decide)) ?_ ?_ (fun _ _ => rfl)
  exact FF.w_var rfl (by first | exact .inl rfl | exact .inr (.inl rfl) | exact .inr (.inr rfl)) (by decide) (by decide)
  exact FF.w_int
  exact FF.w_int
  exact FF.w_var rfl (by first | exact .inl rfl | exact .inr (.inl rfl) | exact .inr (.inr rfl)) (by decide) (by decide)
  exact FF.w_int
  refine FF.w_cons ?_ ?_
  refine FF.w_asg ?_ ?_ (by rfl) (by rfl) (by rfl)
  refine FF.w_bin ?_ ?_
  refine FF.w_ct FF.cb_int (by rfl) (by assumption) PyProof.Rows.boot_int ?_ (by decide) (by decide) (by rfl) (by rfl)
  refine FF.w_acons ?_ ?_ (by rfl)
  refine FF.w_bin ?_ ?_
  refine FF.w_ix (by exact FF.un_of ‹Room _ _› (by decide)) ?_ ?_ (fun _ _ => rfl)
  exact FF.w_var rfl (by first | exact .inl rfl | exact .inr (.inl rfl) | exact .inr (.inr rfl)) (by decide) (by decide)
  exact FF.w_int
  refine FF.w_bin ?_ ?_
  exact FF.w_int
  refine FF.w_ix (by exact FF.un_of ‹Room _ _› (by decide)) ?_ ?_ (fun _ _ => rfl)
  exact FF.w_var rfl (by first | exact .inl rfl | exact .inr (.inl rfl) | exact .inr (.inr rfl)) (by decide) (by decide)
  exact FF.w_int
  exact FF.w_anil
  exact FF.w_int
  exact FF.sg_name (by assumption) rfl (by first | exact .inl rfl | exact .inr rfl) (by first | exact .inl rfl | exact .inr rfl)
  refine FF.w_cons ?_ ?_
  refine FF.w_asg ?_ ?_ (by rfl) (by rfl) (by rfl)
  refine FF.w_bin ?_ ?_
  refine FF.w_ct FF.cb_int (by rfl) (by assumption) PyProof.Rows.boot_int ?_ (by decide) (by decide) (by rfl) (by rfl)
  refine FF.w_acons ?_ ?_ (by rfl)
  refine FF.w_bin ?_ ?_
  refine FF.w_bin ?_ ?_
  refine FF.w_bin ?_ ?_
  exact FF.w_var rfl (by first | exact .inl rfl | exact .inr (.inl rfl) | exact .inr (.inr rfl)) (by decide) (by decide)
  exact FF.w_var rfl (by first | exact .inl rfl | exact .inr (.inl rfl) | exact .inr (.inr rfl)) (by decide) (by decide)
  refine FF.w_bin ?_ ?_
  exact FF.w_int
  refine FF.w_ix (by exact FF.un_of ‹Room _ _› (by decide)) ?_ ?_ (fun _ _ => rfl)
  exact FF.w_var rfl (by first | exact .inl rfl | exact .inr (.inl rfl) | exact .inr (.inr rfl)) (by decide) (by decide)
  exact FF.w_int
  exact FF.w_int
  exact FF.w_anil
  exact FF.w_int
  exact FF.sg_name (by assumption) rfl (by first | exact .inl rfl | exact .inr rfl) (by first | exact .inl rfl | exact .inr rfl)
  refine FF.w_cons ?_ ?_
  refine FF.w_asg ?_ ?_ (by rfl) (by rfl) (by rfl)
  refine FF.w_bin ?_ ?_
  refine FF.w_ct FF.cb_int (by rfl) (by assumption) PyProof.Rows.boot_int ?_ (by decide) (by decide) (by rfl) (by rfl)
  refine FF.w_acons ?_ ?_ (by rfl)
  refine FF.w_bin ?_ ?_
  refine FF.w_bin ?_ ?_
  exact FF.w_var rfl (by first | exact .inl rfl | exact .inr (.inl rfl) | exact .inr (.inr rfl)) (by decide) (by decide)
  exact FF.w_var rfl (by first | exact .inl rfl | exact .inr (.inl rfl) | exact .inr (.inr rfl)) (by decide) (by decide)
  refine FF.w_ix (by exact FF.un_of ‹Room _ _› (by decide)) ?_ ?_ (fun _ _ => rfl)
  exact FF.w_var rfl (by first | exact .inl rfl | exact .inr (.inl rfl) | exact .inr (.inr rfl)) (by decide) (by decide)
  exact FF.w_int
  exact FF.w_anil
  exact FF.w_int
  exact FF.sg_name (by assumption) rfl (by first | exact .inl rfl | exact .inr rfl) (by first | exact .inl rfl | exact .inr rfl)
  refine FF.w_cons ?_ ?_
  refine FF.w_ret ?_
  refine FF.w_bin ?_ ?_
  refine FF.w_ct FF.cb_int (by rfl) (by assumption) PyProof.Rows.boot_int ?_ (by decide) (by decide) (by rfl) (by rfl)
  refine FF.w_acons ?_ ?_ (by rfl)
  refine FF.w_bin ?_ ?_
  exact FF.w_var rfl (by first | exact .inl rfl | exact .inr (.inl rfl) | exact .inr (.inr rfl)) (by decide) (by decide)
  exact FF.w_int
  exact FF.w_anil
  exact FF.w_var rfl (by first | exact .inl rfl | exact .inr (.inl rfl) | exact .inr (.inr rfl)) (by decide) (by decide)
  exact FF.w_nil
theorem S_q_law_record : FnScope ["deck", "book", "many", "found", "turn", "place"] ["deck", "book", "many"] (defScope s_q_law_record) := C8.fnScope_by (by decide +kernel)
theorem b_q_law_record {k : Nat} {φ : Fn} (C_q_law_draw : Cal P w K mg base k (φ 53) s_q_law_draw "_law_draw" ["deck", "many"]) (m_range : mg "range" = none) (m_tuple : mg "tuple" = none) (m_len : mg "len" = none)   (f : Addr) (cdv : Value) (A : Around) (outer : List Env) (s : Shared) (H : Hp) (hgd : A.guards = some []) (hr : Room k (A.deeper (envOfC "_law_record" (defScope s_q_law_record) s.heap.objs.size f cdv))) :
    SB (Xb P w K mg base ["deck", "book", "many", "found", "turn", "place"] "_law_record" (defScope s_q_law_record) f cdv A outer s H) (EK.none K) (defBody s_q_law_record) (exB φ d_q_law_record.body) := by
  have nd : (["deck", "book", "many", "found", "turn", "place"] : List Str).Nodup := by decide +kernel
  refine FF.w_cons ?_ ?_
  refine FF.w_asg ?_ ?_ (by rfl) (by rfl) (by rfl)
  refine FF.w_bin ?_ ?_
  refine FF.w_lst ?_
  refine FF.w_acons ?_ ?_ (by rfl)
  exact FF.w_int
  exact FF.w_anil
  refine FF.w_cb FF.cb_len (by rfl) (by assumption) PySem.boot_len ?_ (by decide) (by decide) (by rfl) (by rfl)
  refine FF.w_acons ?_ ?_ (by rfl)
  exact FF.w_var rfl (by first | exact .inl rfl | exact .inr (.inl rfl) | exact .inr (.inr rfl)) (by decide) (by decide)
  exact FF.w_anil
  exact FF.sg_name (by assumption) rfl (by first | exact .inl rfl | exact .inr rfl) (by first | exact .inl rfl | exact .inr rfl)
  refine FF.w_cons ?_ ?_
  refine FF.w_for rfl PassesOwn.never ?_ ?_ ?_ (by intro _; rfl)
  refine FF.w_range1 (by rfl) (by assumption) ?_ (by rfl)
  exact FF.w_var rfl (by first | exact .inl rfl | exact .inr (.inl rfl) | exact .inr (.inr rfl)) (by decide) (by decide)
  exact FF.sg_name (by assumption) rfl (by first | exact .inl rfl | exact .inr rfl) (by first | exact .inl rfl | exact .inr rfl)
  refine FF.w_cons ?_ ?_
  refine FF.w_asg ?_ ?_ (by rfl) (by rfl) (by rfl)
  refine FF.w_call (by assumption) (by assumption) (by assumption) (by rfl) (by intro _ _ _ _ _ _; exact FF.ar2 (fun _ _ => rfl)) ?_ (by decide) (by rfl) (by rfl)
  refine FF.w_acons ?_ ?_ (by rfl)
  exact FF.w_var rfl (by first | exact .inl rfl | exact .inr (.inl rfl) | exact .inr (.inr rfl)) (by decide) (by decide)
  refine FF.w_acons ?_ ?_ (by rfl)
  refine FF.w_cb FF.cb_len (by rfl) (by assumption) PySem.boot_len ?_ (by decide) (by decide) (by rfl) (by rfl)
  refine FF.w_acons ?_ ?_ (by rfl)
  exact FF.w_var rfl (by first | exact .inl rfl | exact .inr (.inl rfl) | exact .inr (.inr rfl)) (by decide) (by decide)
  exact FF.w_anil
  exact FF.w_anil
  exact FF.sg_name (by assumption) rfl (by first | exact .inl rfl | exact .inr rfl) (by first | exact .inl rfl | exact .inr rfl)
  refine FF.w_cons ?_ ?_
  refine FF.w_setIx (by exact FF.un_of ‹Room _ _› (by decide)) ?_ ?_ ?_ (by rfl) (by rfl) (by rfl) (by intro _; rfl)
  refine FF.w_bin ?_ ?_
  refine FF.w_ix (by exact FF.un_of ‹Room _ _› (by decide)) ?_ ?_ (fun _ _ => rfl)
  exact FF.w_var rfl (by first | exact .inl rfl | exact .inr (.inl rfl) | exact .inr (.inr rfl)) (by decide) (by decide)
  exact FF.w_var rfl (by first | exact .inl rfl | exact .inr (.inl rfl) | exact .inr (.inr rfl)) (by decide) (by decide)
  exact FF.w_int
  exact FF.w_var rfl (by first | exact .inl rfl | exact .inr (.inl rfl) | exact .inr (.inr rfl)) (by decide) (by decide)
  exact FF.w_var rfl (by first | exact .inl rfl | exact .inr (.inl rfl) | exact .inr (.inr rfl)) (by decide) (by decide)
  exact FF.w_nil
  refine FF.w_cons ?_ ?_
  refine FF.w_ret ?_
  refine FF.w_ct FF.cb_tuple (by rfl) (by assumption) PyProof.Rows.boot_tuple ?_ (by decide) (by decide) (by rfl) (by rfl)
  refine FF.w_acons ?_ ?_ (by rfl)
  exact FF.w_var rfl (by first | exact .inl rfl | exact .inr (.inl rfl) | exact .inr (.inr rfl)) (by decide) (by decide)
  exact FF.w_anil
  exact FF.w_nil
theorem S_q_law_up : FnScope ["number", "step"] ["number", "step"] (defScope s_q_law_up) := C8.fnScope_by (by decide +kernel)
theorem b_q_law_up {k : Nat} {φ : Fn}     (f : Addr) (cdv : Value) (A : Around) (outer : List Env) (s : Shared) (H : Hp) (hgd : A.guards = some []) (hr : Room k (A.deeper (envOfC "_law_up" (defScope s_q_law_up) s.heap.objs.size f cdv))) :
    SB (Xb P w K mg base ["number", "step"] "_law_up" (defScope s_q_law_up) f cdv A outer s H) (EK.none K) (defBody s_q_law_up) (exB φ d_q_law_up.body) := by
  have nd : (["number", "step"] : List Str).Nodup := by decide +kernel
  refine FF.w_cons ?_ ?_
  refine FF.w_ret ?_
  refine FF.w_bin ?_ ?_
  refine FF.w_neg ?_
  refine FF.w_bin ?_ ?_
  refine FF.w_neg ?_
  exact FF.w_var rfl (by first | exact .inl rfl | exact .inr (.inl rfl) | exact .inr (.inr rfl)) (by decide) (by decide)
  exact FF.w_var rfl (by first | exact .inl rfl | exact .inr (.inl rfl) | exact .inr (.inr rfl)) (by decide) (by decide)
  exact FF.w_var rfl (by first | exact .inl rfl | exact .inr (.inl rfl) | exact .inr (.inr rfl)) (by decide) (by decide)
  exact FF.w_nil
theorem S_q_law_wide : FnScope ["book", "places", "place"] ["book", "places"] (defScope s_q_law_wide) := C8.fnScope_by (by decide +kernel)
theorem b_q_law_wide {k : Nat} {φ : Fn}  (m_max : mg "max" = none)   (f : Addr) (cdv : Value) (A : Around) (outer : List Env) (s : Shared) (H : Hp) (hgd : A.guards = some []) (hr : Room k (A.deeper (envOfC "_law_wide" (defScope s_q_law_wide) s.heap.objs.size f cdv))) :
    SB (Xb P w K mg base ["book", "places", "place"] "_law_wide" (defScope s_q_law_wide) f cdv A outer s H) (EK.none K) (defBody s_q_law_wide) (exB φ d_q_law_wide.body) := by
  have nd : (["book", "places", "place"] : List Str).Nodup := by decide +kernel
  refine FF.w_cons ?_ ?_
  refine FF.w_ret ?_
  refine FF.w_cb (FF.cb_max rfl (by exact FF.un_of ‹Room _ _› (by decide))) (by rfl) (by assumption) PyProof.Rows.boot_max ?_ (by decide) (by decide) (by rfl) (by rfl)
  refine FF.w_acons ?_ ?_ (by rfl)
  refine FF.w_comp rfl (by assumption) ?_ (by kernel_rfl) (fun _ _ _ _ _ => ?_) (fun _ _ _ _ _ => ?_) (fun _ _ _ _ _ => ?_) (by intro _; rfl) (by decide)
  refine FF.w_iex ?_
  exact FF.w_var rfl (by first | exact .inl rfl | exact .inr (.inl rfl) | exact .inr (.inr rfl)) (by decide) (by decide)
  exact FF.sg_name (by assumption) rfl (by first | exact .inl rfl | exact .inr rfl) (by first | exact .inl rfl | exact .inr rfl)
  exact FF.w_ifs0
  refine FF.w_ix (by exact FF.un_of ‹Room _ _› (by decide)) ?_ ?_ (fun _ _ => rfl)
  refine FF.w_ix (by exact FF.un_of ‹Room _ _› (by decide)) ?_ ?_ (fun _ _ => rfl)
  exact FF.w_var rfl (by first | exact .inl rfl | exact .inr (.inl rfl) | exact .inr (.inr rfl)) (by decide) (by decide)
  exact FF.w_var rfl (by first | exact .inl rfl | exact .inr (.inl rfl) | exact .inr (.inr rfl)) (by decide) (by decide)
  exact FF.w_int
  exact FF.w_anil
  exact FF.w_nil
theorem S_q_law_least : FnScope ["book", "record", "states", "turn", "elder", "left", "end", "place", "further", "many"] ["book", "record"] (defScope s_q_law_least) := C8.fnScope_by (by decide +kernel)
theorem b_q_law_least {k : Nat} {φ : Fn} (C_q_law_up : Cal P w K mg base k (φ 61) s_q_law_up "_law_up" ["number", "step"]) (C_q_law_wide : Cal P w K mg base k (φ 208) s_q_law_wide "_law_wide" ["book", "places"]) (m_range : mg "range" = none) (m_min : mg "min" = none) (m_sum : mg "sum" = none) (m_list : mg "list" = none) (m_len : mg "len" = none) (m_enumerate : mg "enumerate" = none)   (f : Addr) (cdv : Value) (A : Around) (outer : List Env) (s : Shared) (H : Hp) (hgd : A.guards = some []) (hr : Room k (A.deeper (envOfC "_law_least" (defScope s_q_law_least) s.heap.objs.size f cdv))) :
    SB (Xb P w K mg base ["book", "record", "states", "turn", "elder", "left", "end", "place", "further", "many"] "_law_least" (defScope s_q_law_least) f cdv A outer s H) (EK.none K) (defBody s_q_law_least) (exB φ d_q_law_least.body) := by
  have nd : (["book", "record", "states", "turn", "elder", "left", "end", "place", "further", "many"] : List Str).Nodup := by decide +kernel
  refine FF.w_cons ?_ ?_
  refine FF.w_asg ?_ ?_ (by rfl) (by rfl) (by rfl)
  refine FF.w_dispN rfl (by exact FF.un_of ‹Room _ _› (by decide)) ?_ ?_
  refine FF.w_tup ?_
  refine FF.w_acons ?_ ?_ (by rfl)
  exact FF.w_var rfl (by first | exact .inl rfl | exact .inr (.inl rfl) | exact .inr (.inr rfl)) (by decide) (by decide)
  refine FF.w_acons ?_ ?_ (by rfl)
  exact FF.w_int
  exact FF.w_anil
  exact FF.w_bool
  exact FF.sg_name (by assumption) rfl (by first | exact .inl rfl | exact .inr rfl) (by first | exact .inl rfl | exact .inr rfl)
  refine FF.w_cons ?_ ?_
  refine FF.w_for rfl PassesOwn.never ?_ ?_ ?_ (by intro _; rfl)
  refine FF.w_range1 (by rfl) (by assumption) ?_ (by rfl)
  refine FF.w_cb (FF.cb_sum rfl) (by rfl) (by assumption) PyProof.Rows.boot_sum ?_ (by decide) (by decide) (by rfl) (by rfl)
  refine FF.w_acons ?_ ?_ (by rfl)
  exact FF.w_var rfl (by first | exact .inl rfl | exact .inr (.inl rfl) | exact .inr (.inr rfl)) (by decide) (by decide)
  exact FF.w_anil
  exact FF.sg_name (by assumption) rfl (by first | exact .inl rfl | exact .inr rfl) (by first | exact .inl rfl | exact .inr rfl)
  refine FF.w_cons ?_ ?_
  refine FF.w_par rfl (by assumption) (by rfl) (by rfl) (by decide) (by rfl) (by rfl) ?_ (by rfl) (by rfl)
  refine FF.w_acons ?_ ?_ (by rfl)
  refine FF.w_listN rfl (by rfl) (by assumption) ?_ (by rfl)
  exact FF.w_var rfl (by first | exact .inl rfl | exact .inr (.inl rfl) | exact .inr (.inr rfl)) (by decide) (by decide)
  refine FF.w_acons ?_ ?_ (by rfl)
  exact FF.w_newN
  exact FF.w_anil
  refine FF.w_cons ?_ ?_
  refine FF.w_for rfl PassesOwn.never ?_ ?_ ?_ (by intro _; rfl)
  refine FF.w_iex ?_
  exact FF.w_var rfl (by first | exact .inl rfl | exact .inr (.inl rfl) | exact .inr (.inr rfl)) (by decide) (by decide)
  refine FF.sg_tup rfl ?_ (by rfl) (by rfl)
  refine FF.sgs_cons ?_ ?_ (by rfl)
  exact FF.sg_name (by assumption) rfl (by first | exact .inl rfl | exact .inr rfl) (by first | exact .inl rfl | exact .inr rfl)
  refine FF.sgs_cons ?_ ?_ (by rfl)
  exact FF.sg_name (by assumption) rfl (by first | exact .inl rfl | exact .inr rfl) (by first | exact .inl rfl | exact .inr rfl)
  exact FF.sgs_nil
  refine FF.w_cons ?_ ?_
  refine FF.w_for rfl PassesOwn.never ?_ ?_ ?_ (by intro _; rfl)
  refine FF.w_range1 (by rfl) (by assumption) ?_ (by rfl)
  refine FF.w_cb FF.cb_len (by rfl) (by assumption) PySem.boot_len ?_ (by decide) (by decide) (by rfl) (by rfl)
  refine FF.w_acons ?_ ?_ (by rfl)
  exact FF.w_var rfl (by first | exact .inl rfl | exact .inr (.inl rfl) | exact .inr (.inr rfl)) (by decide) (by decide)
  exact FF.w_anil
  exact FF.sg_name (by assumption) rfl (by first | exact .inl rfl | exact .inr rfl) (by first | exact .inl rfl | exact .inr rfl)
  refine FF.w_cons ?_ ?_
  refine FF.w_ite ?_ ?_ ?_
  refine FF.w_tcmp (by exact FF.un_of ‹Room _ _› (by decide)) ?_ ?_ (by rfl)
  refine FF.w_ix (by exact FF.un_of ‹Room _ _› (by decide)) ?_ ?_ (fun _ _ => rfl)
  exact FF.w_var rfl (by first | exact .inl rfl | exact .inr (.inl rfl) | exact .inr (.inr rfl)) (by decide) (by decide)
  exact FF.w_var rfl (by first | exact .inl rfl | exact .inr (.inl rfl) | exact .inr (.inr rfl)) (by decide) (by decide)
  exact FF.w_int
  refine FF.w_cons ?_ ?_
  refine FF.w_asg ?_ ?_ (by rfl) (by rfl) (by rfl)
  refine FF.w_bin ?_ ?_
  refine FF.w_bin ?_ ?_
  refine FF.w_slice ?_ ?_ ?_
  exact FF.w_var rfl (by first | exact .inl rfl | exact .inr (.inl rfl) | exact .inr (.inr rfl)) (by decide) (by decide)
  exact FF.w_no
  refine FF.w_yes ?_
  exact FF.w_var rfl (by first | exact .inl rfl | exact .inr (.inl rfl) | exact .inr (.inr rfl)) (by decide) (by decide)
  refine FF.w_tup ?_
  refine FF.w_acons ?_ ?_ (by rfl)
  refine FF.w_bin ?_ ?_
  refine FF.w_ix (by exact FF.un_of ‹Room _ _› (by decide)) ?_ ?_ (fun _ _ => rfl)
  exact FF.w_var rfl (by first | exact .inl rfl | exact .inr (.inl rfl) | exact .inr (.inr rfl)) (by decide) (by decide)
  exact FF.w_var rfl (by first | exact .inl rfl | exact .inr (.inl rfl) | exact .inr (.inr rfl)) (by decide) (by decide)
  exact FF.w_int
  exact FF.w_anil
  refine FF.w_slice ?_ ?_ ?_
  exact FF.w_var rfl (by first | exact .inl rfl | exact .inr (.inl rfl) | exact .inr (.inr rfl)) (by decide) (by decide)
  refine FF.w_yes ?_
  refine FF.w_bin ?_ ?_
  exact FF.w_var rfl (by first | exact .inl rfl | exact .inr (.inl rfl) | exact .inr (.inr rfl)) (by decide) (by decide)
  exact FF.w_int
  exact FF.w_no
  exact FF.sg_name (by assumption) rfl (by first | exact .inl rfl | exact .inr rfl) (by first | exact .inl rfl | exact .inr rfl)
  refine FF.w_cons ?_ ?_
  refine FF.w_setN (by exact FF.un_of ‹Room _ _› (by decide)) ?_ ?_ ?_ (by rfl) (by rfl) (by rfl) (by intro _; rfl)
  exact FF.w_bool
  exact FF.w_var rfl (by first | exact .inl rfl | exact .inr (.inl rfl) | exact .inr (.inr rfl)) (by decide) (by decide)
  refine FF.w_tup ?_
  refine FF.w_acons ?_ ?_ (by rfl)
  exact FF.w_var rfl (by first | exact .inl rfl | exact .inr (.inl rfl) | exact .inr (.inr rfl)) (by decide) (by decide)
  refine FF.w_acons ?_ ?_ (by rfl)
  refine FF.w_bin ?_ ?_
  refine FF.w_call (by assumption) (by assumption) (by assumption) (by rfl) (by intro _ _ _ _ _ _; exact FF.ar2 (fun _ _ => rfl)) ?_ (by decide) (by rfl) (by rfl)
  refine FF.w_acons ?_ ?_ (by rfl)
  exact FF.w_var rfl (by first | exact .inl rfl | exact .inr (.inl rfl) | exact .inr (.inr rfl)) (by decide) (by decide)
  refine FF.w_acons ?_ ?_ (by rfl)
  refine FF.w_ix (by exact FF.un_of ‹Room _ _› (by decide)) ?_ ?_ (fun _ _ => rfl)
  refine FF.w_ix (by exact FF.un_of ‹Room _ _› (by decide)) ?_ ?_ (fun _ _ => rfl)
  exact FF.w_var rfl (by first | exact .inl rfl | exact .inr (.inl rfl) | exact .inr (.inr rfl)) (by decide) (by decide)
  exact FF.w_var rfl (by first | exact .inl rfl | exact .inr (.inl rfl) | exact .inr (.inr rfl)) (by decide) (by decide)
  exact FF.w_int
  exact FF.w_anil
  refine FF.w_ix (by exact FF.un_of ‹Room _ _› (by decide)) ?_ ?_ (fun _ _ => rfl)
  refine FF.w_ix (by exact FF.un_of ‹Room _ _› (by decide)) ?_ ?_ (fun _ _ => rfl)
  exact FF.w_var rfl (by first | exact .inl rfl | exact .inr (.inl rfl) | exact .inr (.inr rfl)) (by decide) (by decide)
  exact FF.w_var rfl (by first | exact .inl rfl | exact .inr (.inl rfl) | exact .inr (.inr rfl)) (by decide) (by decide)
  exact FF.w_int
  exact FF.w_anil
  exact FF.w_nil
  exact FF.w_nil
  exact FF.w_nil
  exact FF.w_nil
  exact FF.w_nil
  refine FF.w_cons ?_ ?_
  refine FF.w_asg ?_ ?_ (by rfl) (by rfl) (by rfl)
  refine FF.w_cb (FF.cb_min rfl (by exact FF.un_of ‹Room _ _› (by decide))) (by rfl) (by assumption) PyProof.Rows.boot_min ?_ (by decide) (by decide) (by rfl) (by rfl)
  refine FF.w_acons ?_ ?_ (by rfl)
  exact FF.w_sndN rfl (by assumption) (by rfl) (by first | exact .inl rfl | exact .inr (.inl rfl) | exact .inr (.inr rfl)) (by decide) (by decide) (by kernel_rfl) (fun _ _ _ _ _ => L2.pg_tup rfl (L2.pgs_cons (L2.pg_name (by assumption) rfl (by first | exact .inl rfl | exact .inr rfl) (by first | exact .inl rfl | exact .inr rfl)) (L2.pgs_cons (L2.pg_name (by assumption) rfl (by first | exact .inl rfl | exact .inr rfl) (by first | exact .inl rfl | exact .inr rfl)) L2.pgs_nil (by rfl)) (by rfl)) (by rfl) (by rfl)) (fun _ _ _ _ _ => L2.pe_var rfl (by first | exact .inl rfl | exact .inr (.inl rfl) | exact .inr (.inr rfl)) (by decide) (by decide)) (by intro _; rfl)
  exact FF.w_anil
  exact FF.sg_name (by assumption) rfl (by first | exact .inl rfl | exact .inr rfl) (by first | exact .inl rfl | exact .inr rfl)
  refine FF.w_cons ?_ ?_
  refine FF.w_ret ?_
  refine FF.w_call (by assumption) (by assumption) (by assumption) (by rfl) (by intro _ _ _ _ _ _; exact FF.ar2 (fun _ _ => rfl)) ?_ (by decide) (by rfl) (by rfl)
  refine FF.w_acons ?_ ?_ (by rfl)
  exact FF.w_var rfl (by first | exact .inl rfl | exact .inr (.inl rfl) | exact .inr (.inr rfl)) (by decide) (by decide)
  refine FF.w_acons ?_ ?_ (by rfl)
  refine FF.w_call (by assumption) (by assumption) (by assumption) (by rfl) (by intro _ _ _ _ _ _; exact FF.ar2 (fun _ _ => rfl)) ?_ (by decide) (by rfl) (by rfl)
  refine FF.w_acons ?_ ?_ (by rfl)
  exact FF.w_var rfl (by first | exact .inl rfl | exact .inr (.inl rfl) | exact .inr (.inr rfl)) (by decide) (by decide)
  refine FF.w_acons ?_ ?_ (by rfl)
  refine FF.w_comp rfl (by assumption) ?_ (by kernel_rfl) (fun _ _ _ _ _ => ?_) (fun _ _ _ _ _ => ?_) (fun _ _ _ _ _ => ?_) (by intro _; rfl) (by decide)
  refine FF.w_enum (by rfl) (by assumption) ?_ (by rfl)
  exact FF.w_var rfl (by first | exact .inl rfl | exact .inr (.inl rfl) | exact .inr (.inr rfl)) (by decide) (by decide)
  refine FF.sg_tup rfl ?_ (by rfl) (by rfl)
  refine FF.sgs_cons ?_ ?_ (by rfl)
  exact FF.sg_name (by assumption) rfl (by first | exact .inl rfl | exact .inr rfl) (by first | exact .inl rfl | exact .inr rfl)
  refine FF.sgs_cons ?_ ?_ (by rfl)
  exact FF.sg_name (by assumption) rfl (by first | exact .inl rfl | exact .inr rfl) (by first | exact .inl rfl | exact .inr rfl)
  exact FF.sgs_nil
  refine FF.w_ifs1 ?_
  refine FF.w_tcmp (by exact FF.un_of ‹Room _ _› (by decide)) ?_ ?_ (by rfl)
  exact FF.w_var rfl (by first | exact .inl rfl | exact .inr (.inl rfl) | exact .inr (.inr rfl)) (by decide) (by decide)
  exact FF.w_int
  exact FF.w_var rfl (by first | exact .inl rfl | exact .inr (.inl rfl) | exact .inr (.inr rfl)) (by decide) (by decide)
  exact FF.w_anil
  exact FF.w_anil
  exact FF.w_nil
theorem S_q_law_pick : FnScope ["deck", "items"] ["deck", "items"] (defScope s_q_law_pick) := C8.fnScope_by (by decide +kernel)
theorem b_q_law_pick {k : Nat} {φ : Fn} (C_q_law_draw : Cal P w K mg base k (φ 53) s_q_law_draw "_law_draw" ["deck", "many"]) (m_len : mg "len" = none)   (f : Addr) (cdv : Value) (A : Around) (outer : List Env) (s : Shared) (H : Hp) (hgd : A.guards = some []) (hr : Room k (A.deeper (envOfC "_law_pick" (defScope s_q_law_pick) s.heap.objs.size f cdv))) :
    SB (Xb P w K mg base ["deck", "items"] "_law_pick" (defScope s_q_law_pick) f cdv A outer s H) (EK.none K) (defBody s_q_law_pick) (exB φ d_q_law_pick.body) := by
  have nd : (["deck", "items"] : List Str).Nodup := by decide +kernel
  refine FF.w_cons ?_ ?_
  refine FF.w_ret ?_
  refine FF.w_ix (by exact FF.un_of ‹Room _ _› (by decide)) ?_ ?_ (fun _ _ => rfl)
  exact FF.w_var rfl (by first | exact .inl rfl | exact .inr (.inl rfl) | exact .inr (.inr rfl)) (by decide) (by decide)
  refine FF.w_call (by assumption) (by assumption) (by assumption) (by rfl) (by intro _ _ _ _ _ _; exact FF.ar2 (fun _ _ => rfl)) ?_ (by decide) (by rfl) (by rfl)
  refine FF.w_acons ?_ ?_ (by rfl)
  exact FF.w_var rfl (by first | exact .inl rfl | exact .inr (.inl rfl) | exact .inr (.inr rfl)) (by decide) (by decide)
  refine FF.w_acons ?_ ?_ (by rfl)
  refine FF.w_cb FF.cb_len (by rfl) (by assumption) PySem.boot_len ?_ (by decide) (by decide) (by rfl) (by rfl)
  refine FF.w_acons ?_ ?_ (by rfl)
  exact FF.w_var rfl (by first | exact .inl rfl | exact .inr (.inl rfl) | exact .inr (.inr rfl)) (by decide) (by decide)
  exact FF.w_anil
  exact FF.w_anil
  exact FF.w_nil
theorem S_q_law_kind : FnScope ["deck", "unit", "lack", "alignment", "is_great", "step", "many"] ["deck", "unit", "lack", "alignment", "is_great"] (defScope s_q_law_kind) := C8.fnScope_by (by decide +kernel)
theorem b_q_law_kind {k : Nat} {φ : Fn} (C_q_law_draw : Cal P w K mg base k (φ 53) s_q_law_draw "_law_draw" ["deck", "many"]) (m_max : mg "max" = none)   (f : Addr) (cdv : Value) (A : Around) (outer : List Env) (s : Shared) (H : Hp) (hgd : A.guards = some []) (hr : Room k (A.deeper (envOfC "_law_kind" (defScope s_q_law_kind) s.heap.objs.size f cdv))) :
    SB (Xb P w K mg base ["deck", "unit", "lack", "alignment", "is_great", "step", "many"] "_law_kind" (defScope s_q_law_kind) f cdv A outer s H) (EK.none K) (defBody s_q_law_kind) (exB φ d_q_law_kind.body) := by
  have nd : (["deck", "unit", "lack", "alignment", "is_great", "step", "many"] : List Str).Nodup := by decide +kernel
  refine FF.w_cons ?_ ?_
  refine FF.w_asg ?_ ?_ (by rfl) (by rfl) (by rfl)
  refine FF.w_cb (FF.cb_max2 rfl) (by rfl) (by assumption) PyProof.Rows.boot_max ?_ (by decide) (by decide) (by rfl) (by rfl)
  refine FF.w_acons ?_ ?_ (by rfl)
  exact FF.w_var rfl (by first | exact .inl rfl | exact .inr (.inl rfl) | exact .inr (.inr rfl)) (by decide) (by decide)
  refine FF.w_acons ?_ ?_ (by rfl)
  exact FF.w_var rfl (by first | exact .inl rfl | exact .inr (.inl rfl) | exact .inr (.inr rfl)) (by decide) (by decide)
  exact FF.w_anil
  exact FF.sg_name (by assumption) rfl (by first | exact .inl rfl | exact .inr rfl) (by first | exact .inl rfl | exact .inr rfl)
  refine FF.w_cons ?_ ?_
  refine FF.w_asg ?_ ?_ (by rfl) (by rfl) (by rfl)
  refine FF.w_bin ?_ ?_
  exact FF.w_int
  refine FF.w_call (by assumption) (by assumption) (by assumption) (by rfl) (by intro _ _ _ _ _ _; exact FF.ar2 (fun _ _ => rfl)) ?_ (by decide) (by rfl) (by rfl)
  refine FF.w_acons ?_ ?_ (by rfl)
  exact FF.w_var rfl (by first | exact .inl rfl | exact .inr (.inl rfl) | exact .inr (.inr rfl)) (by decide) (by decide)
  refine FF.w_acons ?_ ?_ (by rfl)
  exact FF.w_int
  exact FF.w_anil
  exact FF.sg_name (by assumption) rfl (by first | exact .inl rfl | exact .inr rfl) (by first | exact .inl rfl | exact .inr rfl)
  refine FF.w_cons ?_ ?_
  refine FF.w_ite ?_ ?_ ?_
  refine FF.w_tplain ?_ (fun _ => rfl)
  exact FF.w_var rfl (by first | exact .inl rfl | exact .inr (.inl rfl) | exact .inr (.inr rfl)) (by decide) (by decide)
  refine FF.w_cons ?_ ?_
  refine FF.w_asg ?_ ?_ (by rfl) (by rfl) (by rfl)
  refine FF.w_bin ?_ ?_
  refine FF.w_bin ?_ ?_
  refine FF.w_bin ?_ ?_
  exact FF.w_int
  exact FF.w_int
  exact FF.w_var rfl (by first | exact .inl rfl | exact .inr (.inl rfl) | exact .inr (.inr rfl)) (by decide) (by decide)
  refine FF.w_call (by assumption) (by assumption) (by assumption) (by rfl) (by intro _ _ _ _ _ _; exact FF.ar2 (fun _ _ => rfl)) ?_ (by decide) (by rfl) (by rfl)
  refine FF.w_acons ?_ ?_ (by rfl)
  exact FF.w_var rfl (by first | exact .inl rfl | exact .inr (.inl rfl) | exact .inr (.inr rfl)) (by decide) (by decide)
  refine FF.w_acons ?_ ?_ (by rfl)
  exact FF.w_int
  exact FF.w_anil
  exact FF.sg_name (by assumption) rfl (by first | exact .inl rfl | exact .inr rfl) (by first | exact .inl rfl | exact .inr rfl)
  exact FF.w_nil
  exact FF.w_nil
  refine FF.w_cons ?_ ?_
  refine FF.w_ret ?_
  refine FF.w_tup ?_
  refine FF.w_acons ?_ ?_ (by rfl)
  refine FF.w_cb (FF.cb_max2 rfl) (by rfl) (by assumption) PyProof.Rows.boot_max ?_ (by decide) (by decide) (by rfl) (by rfl)
  refine FF.w_acons ?_ ?_ (by rfl)
  exact FF.w_int
  refine FF.w_acons ?_ ?_ (by rfl)
  refine FF.w_bin ?_ ?_
  refine FF.w_bin ?_ ?_
  exact FF.w_var rfl (by first | exact .inl rfl | exact .inr (.inl rfl) | exact .inr (.inr rfl)) (by decide) (by decide)
  exact FF.w_var rfl (by first | exact .inl rfl | exact .inr (.inl rfl) | exact .inr (.inr rfl)) (by decide) (by decide)
  exact FF.w_var rfl (by first | exact .inl rfl | exact .inr (.inl rfl) | exact .inr (.inr rfl)) (by decide) (by decide)
  exact FF.w_anil
  refine FF.w_acons ?_ ?_ (by rfl)
  exact FF.w_var rfl (by first | exact .inl rfl | exact .inr (.inl rfl) | exact .inr (.inr rfl)) (by decide) (by decide)
  exact FF.w_anil
  exact FF.w_nil
theorem S_q_law_level : FnScope ["deck", "kinds", "unit", "found", "is_great", "turn", "alignment", "most", "lack"] ["deck", "kinds"] (defScope s_q_law_level) := C8.fnScope_by (by decide +kernel)
theorem b_q_law_level {k : Nat} {φ : Fn} (C_q_law_draw : Cal P w K mg base k (φ 53) s_q_law_draw "_law_draw" ["deck", "many"]) (C_q_law_pick : Cal P w K mg base k (φ 54) s_q_law_pick "_law_pick" ["deck", "items"]) (C_q_law_kind : Cal P w K mg base k (φ 55) s_q_law_kind "_law_kind" ["deck", "unit", "lack", "alignment", "is_great"]) (m_range : mg "range" = none) (m_tuple : mg "tuple" = none) (m_min : mg "min" = none)   (f : Addr) (cdv : Value) (A : Around) (outer : List Env) (s : Shared) (H : Hp) (hgd : A.guards = some []) (hr : Room k (A.deeper (envOfC "_law_level" (defScope s_q_law_level) s.heap.objs.size f cdv))) :
    SB (Xb P w K mg base ["deck", "kinds", "unit", "found", "is_great", "turn", "alignment", "most", "lack"] "_law_level" (defScope s_q_law_level) f cdv A outer s H) (EK.none K) (defBody s_q_law_level) (exB φ d_q_law_level.body) := by
  have nd : (["deck", "kinds", "unit", "found", "is_great", "turn", "alignment", "most", "lack"] : List Str).Nodup := by decide +kernel
  refine FF.w_cons ?_ ?_
  refine FF.w_par rfl (by assumption) (by rfl) (by rfl) (by decide) (by rfl) (by rfl) ?_ (by rfl) (by rfl)
  refine FF.w_acons ?_ ?_ (by rfl)
  refine FF.w_bin ?_ ?_
  exact FF.w_int
  refine FF.w_call (by assumption) (by assumption) (by assumption) (by rfl) (by intro _ _ _ _ _ _; exact FF.ar2 (fun _ _ => rfl)) ?_ (by decide) (by rfl) (by rfl)
  refine FF.w_acons ?_ ?_ (by rfl)
  exact FF.w_var rfl (by first | exact .inl rfl | exact .inr (.inl rfl) | exact .inr (.inr rfl)) (by decide) (by decide)
  refine FF.w_acons ?_ ?_ (by rfl)
  exact FF.w_int
  exact FF.w_anil
  refine FF.w_acons ?_ ?_ (by rfl)
  refine FF.w_lst ?_
  exact FF.w_anil
  exact FF.w_anil
  refine FF.w_cons ?_ ?_
  refine FF.w_asg ?_ ?_ (by rfl) (by rfl) (by rfl)
  refine FF.w_cmp (by exact FF.un_of ‹Room _ _› (by decide)) ?_ ?_ (by rfl)
  refine FF.w_call (by assumption) (by assumption) (by assumption) (by rfl) (by intro _ _ _ _ _ _; exact FF.ar2 (fun _ _ => rfl)) ?_ (by decide) (by rfl) (by rfl)
  refine FF.w_acons ?_ ?_ (by rfl)
  exact FF.w_var rfl (by first | exact .inl rfl | exact .inr (.inl rfl) | exact .inr (.inr rfl)) (by decide) (by decide)
  refine FF.w_acons ?_ ?_ (by rfl)
  exact FF.w_int
  exact FF.w_anil
  exact FF.w_int
  exact FF.sg_name (by assumption) rfl (by first | exact .inl rfl | exact .inr rfl) (by first | exact .inl rfl | exact .inr rfl)
  refine FF.w_cons ?_ ?_
  refine FF.w_for rfl PassesOwn.never ?_ ?_ ?_ (by intro _; rfl)
  refine FF.w_range1 (by rfl) (by assumption) ?_ (by rfl)
  exact FF.w_var rfl (by first | exact .inl rfl | exact .inr (.inl rfl) | exact .inr (.inr rfl)) (by decide) (by decide)
  exact FF.sg_name (by assumption) rfl (by first | exact .inl rfl | exact .inr rfl) (by first | exact .inl rfl | exact .inr rfl)
  refine FF.w_cons ?_ ?_
  refine FF.w_asg ?_ ?_ (by rfl) (by rfl) (by rfl)
  refine FF.w_bin ?_ ?_
  exact FF.w_int
  refine FF.w_call (by assumption) (by assumption) (by assumption) (by rfl) (by intro _ _ _ _ _ _; exact FF.ar2 (fun _ _ => rfl)) ?_ (by decide) (by rfl) (by rfl)
  refine FF.w_acons ?_ ?_ (by rfl)
  exact FF.w_var rfl (by first | exact .inl rfl | exact .inr (.inl rfl) | exact .inr (.inr rfl)) (by decide) (by decide)
  refine FF.w_acons ?_ ?_ (by rfl)
  exact FF.w_int
  exact FF.w_anil
  exact FF.sg_name (by assumption) rfl (by first | exact .inl rfl | exact .inr rfl) (by first | exact .inl rfl | exact .inr rfl)
  refine FF.w_cons ?_ ?_
  refine FF.w_asg ?_ ?_ (by rfl) (by rfl) (by rfl)
  refine FF.w_bin ?_ ?_
  refine FF.w_cb (FF.cb_min2 rfl) (by rfl) (by assumption) PyProof.Rows.boot_min ?_ (by decide) (by decide) (by rfl) (by rfl)
  refine FF.w_acons ?_ ?_ (by rfl)
  exact FF.w_var rfl (by first | exact .inl rfl | exact .inr (.inl rfl) | exact .inr (.inr rfl)) (by decide) (by decide)
  refine FF.w_acons ?_ ?_ (by rfl)
  exact FF.w_var rfl (by first | exact .inl rfl | exact .inr (.inl rfl) | exact .inr (.inr rfl)) (by decide) (by decide)
  exact FF.w_anil
  exact FF.w_int
  exact FF.sg_name (by assumption) rfl (by first | exact .inl rfl | exact .inr rfl) (by first | exact .inl rfl | exact .inr rfl)
  refine FF.w_cons ?_ ?_
  refine FF.w_asg ?_ ?_ (by rfl) (by rfl) (by rfl)
  refine FF.w_call (by assumption) (by assumption) (by assumption) (by rfl) (by intro _ _ _ _ _ _; exact FF.ar2 (fun _ _ => rfl)) ?_ (by decide) (by rfl) (by rfl)
  refine FF.w_acons ?_ ?_ (by rfl)
  exact FF.w_var rfl (by first | exact .inl rfl | exact .inr (.inl rfl) | exact .inr (.inr rfl)) (by decide) (by decide)
  refine FF.w_acons ?_ ?_ (by rfl)
  refine FF.w_lst ?_
  refine FF.w_acons ?_ ?_ (by rfl)
  exact FF.w_int
  refine FF.w_acons ?_ ?_ (by rfl)
  exact FF.w_var rfl (by first | exact .inl rfl | exact .inr (.inl rfl) | exact .inr (.inr rfl)) (by decide) (by decide)
  refine FF.w_acons ?_ ?_ (by rfl)
  refine FF.w_call (by assumption) (by assumption) (by assumption) (by rfl) (by intro _ _ _ _ _ _; exact FF.ar2 (fun _ _ => rfl)) ?_ (by decide) (by rfl) (by rfl)
  refine FF.w_acons ?_ ?_ (by rfl)
  exact FF.w_var rfl (by first | exact .inl rfl | exact .inr (.inl rfl) | exact .inr (.inr rfl)) (by decide) (by decide)
  refine FF.w_acons ?_ ?_ (by rfl)
  refine FF.w_bin ?_ ?_
  exact FF.w_var rfl (by first | exact .inl rfl | exact .inr (.inl rfl) | exact .inr (.inr rfl)) (by decide) (by decide)
  exact FF.w_int
  exact FF.w_anil
  exact FF.w_anil
  exact FF.w_anil
  exact FF.sg_name (by assumption) rfl (by first | exact .inl rfl | exact .inr rfl) (by first | exact .inl rfl | exact .inr rfl)
  refine FF.w_cons ?_ ?_
  refine FF.w_expr ?_ (by rfl)
  refine FF.w_bm PySem.F.slot_list_append PySem.F.type_list_append FF.mt_appendD FF.fit_append (fun _ _ _ => rfl) ?_ ?_ (by rfl) (by rfl) (by rfl) (by rfl) (by rfl)
  exact FF.w_var rfl (by first | exact .inl rfl | exact .inr (.inl rfl) | exact .inr (.inr rfl)) (by decide) (by decide)
  refine FF.w_acons ?_ ?_ (by rfl)
  refine FF.w_call (by assumption) (by assumption) (by assumption) (by rfl) (by intro _ _ _ _ _ _; exact FF.ar5 (fun _ _ _ _ _ => rfl)) ?_ (by decide) (by rfl) (by rfl)
  refine FF.w_acons ?_ ?_ (by rfl)
  exact FF.w_var rfl (by first | exact .inl rfl | exact .inr (.inl rfl) | exact .inr (.inr rfl)) (by decide) (by decide)
  refine FF.w_acons ?_ ?_ (by rfl)
  exact FF.w_var rfl (by first | exact .inl rfl | exact .inr (.inl rfl) | exact .inr (.inr rfl)) (by decide) (by decide)
  refine FF.w_acons ?_ ?_ (by rfl)
  exact FF.w_var rfl (by first | exact .inl rfl | exact .inr (.inl rfl) | exact .inr (.inr rfl)) (by decide) (by decide)
  refine FF.w_acons ?_ ?_ (by rfl)
  exact FF.w_var rfl (by first | exact .inl rfl | exact .inr (.inl rfl) | exact .inr (.inr rfl)) (by decide) (by decide)
  refine FF.w_acons ?_ ?_ (by rfl)
  refine FF.w_and ?_ ?_
  exact FF.w_var rfl (by first | exact .inl rfl | exact .inr (.inl rfl) | exact .inr (.inr rfl)) (by decide) (by decide)
  refine FF.w_one ?_
  refine FF.w_cmp (by exact FF.un_of ‹Room _ _› (by decide)) ?_ ?_ (by rfl)
  refine FF.w_call (by assumption) (by assumption) (by assumption) (by rfl) (by intro _ _ _ _ _ _; exact FF.ar2 (fun _ _ => rfl)) ?_ (by decide) (by rfl) (by rfl)
  refine FF.w_acons ?_ ?_ (by rfl)
  exact FF.w_var rfl (by first | exact .inl rfl | exact .inr (.inl rfl) | exact .inr (.inr rfl)) (by decide) (by decide)
  refine FF.w_acons ?_ ?_ (by rfl)
  exact FF.w_int
  exact FF.w_anil
  exact FF.w_int
  exact FF.w_anil
  exact FF.w_anil
  exact FF.w_nil
  refine FF.w_cons ?_ ?_
  refine FF.w_ret ?_
  refine FF.w_tup ?_
  refine FF.w_acons ?_ ?_ (by rfl)
  refine FF.w_ct FF.cb_tuple (by rfl) (by assumption) PyProof.Rows.boot_tuple ?_ (by decide) (by decide) (by rfl) (by rfl)
  refine FF.w_acons ?_ ?_ (by rfl)
  exact FF.w_var rfl (by first | exact .inl rfl | exact .inr (.inl rfl) | exact .inr (.inr rfl)) (by decide) (by decide)
  exact FF.w_anil
  refine FF.w_acons ?_ ?_ (by rfl)
  exact FF.w_var rfl (by first | exact .inl rfl | exact .inr (.inl rfl) | exact .inr (.inr rfl)) (by decide) (by decide)
  exact FF.w_anil
  exact FF.w_nil
theorem S_q_law_mixed : FnScope ["deck", "items", "rest", "found"] ["deck", "items"] (defScope s_q_law_mixed) := C8.fnScope_by (by decide +kernel)
theorem b_q_law_mixed {k : Nat} {φ : Fn} (C_q_law_draw : Cal P w K mg base k (φ 53) s_q_law_draw "_law_draw" ["deck", "many"]) (m_list : mg "list" = none) (m_len : mg "len" = none)   (f : Addr) (cdv : Value) (A : Around) (outer : List Env) (s : Shared) (H : Hp) (hgd : A.guards = some []) (hr : Room k (A.deeper (envOfC "_law_mixed" (defScope s_q_law_mixed) s.heap.objs.size f cdv))) :
    SB (Xb P w K mg base ["deck", "items", "rest", "found"] "_law_mixed" (defScope s_q_law_mixed) f cdv A outer s H) (EK.none K) (defBody s_q_law_mixed) (exB φ d_q_law_mixed.body) := by
  have nd : (["deck", "items", "rest", "found"] : List Str).Nodup := by decide +kernel
  refine FF.w_cons ?_ ?_
  refine FF.w_par rfl (by assumption) (by rfl) (by rfl) (by decide) (by rfl) (by rfl) ?_ (by rfl) (by rfl)
  refine FF.w_acons ?_ ?_ (by rfl)
  refine FF.w_ct FF.cb_list (by rfl) (by assumption) PyProof.Rows.boot_list ?_ (by decide) (by decide) (by rfl) (by rfl)
  refine FF.w_acons ?_ ?_ (by rfl)
  exact FF.w_var rfl (by first | exact .inl rfl | exact .inr (.inl rfl) | exact .inr (.inr rfl)) (by decide) (by decide)
  exact FF.w_anil
  refine FF.w_acons ?_ ?_ (by rfl)
  refine FF.w_lst ?_
  exact FF.w_anil
  exact FF.w_anil
  refine FF.w_cons ?_ ?_
  refine FF.w_while PassesOwn.never ?_ ?_
  refine FF.w_tcmp (by exact FF.un_of ‹Room _ _› (by decide)) ?_ ?_ (by rfl)
  exact FF.w_var rfl (by first | exact .inl rfl | exact .inr (.inl rfl) | exact .inr (.inr rfl)) (by decide) (by decide)
  refine FF.w_lst ?_
  exact FF.w_anil
  refine FF.w_cons ?_ ?_
  refine FF.w_expr ?_ (by rfl)
  refine FF.w_bm PySem.F.slot_list_append PySem.F.type_list_append FF.mt_appendD FF.fit_append (fun _ _ _ => rfl) ?_ ?_ (by rfl) (by rfl) (by rfl) (by rfl) (by rfl)
  exact FF.w_var rfl (by first | exact .inl rfl | exact .inr (.inl rfl) | exact .inr (.inr rfl)) (by decide) (by decide)
  refine FF.w_acons ?_ ?_ (by rfl)
  refine FF.w_bm PySem.F.slot_list_pop PySem.F.type_list_pop FF.mt_popAtD FF.fit_popAt (fun _ _ _ => rfl) ?_ ?_ (by rfl) (by rfl) (by rfl) (by rfl) (by rfl)
  exact FF.w_var rfl (by first | exact .inl rfl | exact .inr (.inl rfl) | exact .inr (.inr rfl)) (by decide) (by decide)
  refine FF.w_acons ?_ ?_ (by rfl)
  refine FF.w_call (by assumption) (by assumption) (by assumption) (by rfl) (by intro _ _ _ _ _ _; exact FF.ar2 (fun _ _ => rfl)) ?_ (by decide) (by rfl) (by rfl)
  refine FF.w_acons ?_ ?_ (by rfl)
  exact FF.w_var rfl (by first | exact .inl rfl | exact .inr (.inl rfl) | exact .inr (.inr rfl)) (by decide) (by decide)
  refine FF.w_acons ?_ ?_ (by rfl)
  refine FF.w_cb FF.cb_len (by rfl) (by assumption) PySem.boot_len ?_ (by decide) (by decide) (by rfl) (by rfl)
  refine FF.w_acons ?_ ?_ (by rfl)
  exact FF.w_var rfl (by first | exact .inl rfl | exact .inr (.inl rfl) | exact .inr (.inr rfl)) (by decide) (by decide)
  exact FF.w_anil
  exact FF.w_anil
  exact FF.w_anil
  exact FF.w_anil
  exact FF.w_nil
  refine FF.w_cons ?_ ?_
  refine FF.w_ret ?_
  exact FF.w_var rfl (by first | exact .inl rfl | exact .inr (.inl rfl) | exact .inr (.inr rfl)) (by decide) (by decide)
  exact FF.w_nil
theorem S_q_law_just : FnScope ["deck", "kinds", "book", "unit", "alignment", "lack", "found"] ["deck", "kinds"] (defScope s_q_law_just) := C8.fnScope_by (by decide +kernel)
theorem b_q_law_just {k : Nat} {φ : Fn} (C_q_law_level : Cal P w K mg base k (φ 56) s_q_law_level "_law_level" ["deck", "kinds"]) (C_q_law_pick : Cal P w K mg base k (φ 54) s_q_law_pick "_law_pick" ["deck", "items"]) (C_q_law_draw : Cal P w K mg base k (φ 53) s_q_law_draw "_law_draw" ["deck", "many"]) (C_q_law_kind : Cal P w K mg base k (φ 55) s_q_law_kind "_law_kind" ["deck", "unit", "lack", "alignment", "is_great"]) (C_q_law_mixed : Cal P w K mg base k (φ 57) s_q_law_mixed "_law_mixed" ["deck", "items"]) (m_min : mg "min" = none) (m_tuple : mg "tuple" = none) (m_list : mg "list" = none)   (f : Addr) (cdv : Value) (A : Around) (outer : List Env) (s : Shared) (H : Hp) (hgd : A.guards = some []) (hr : Room k (A.deeper (envOfC "_law_just" (defScope s_q_law_just) s.heap.objs.size f cdv))) :
    SB (Xb P w K mg base ["deck", "kinds", "book", "unit", "alignment", "lack", "found"] "_law_just" (defScope s_q_law_just) f cdv A outer s H) (EK.none K) (defBody s_q_law_just) (exB φ d_q_law_just.body) := by
  have nd : (["deck", "kinds", "book", "unit", "alignment", "lack", "found"] : List Str).Nodup := by decide +kernel
  refine FF.w_cons ?_ ?_
  refine FF.w_asg ?_ ?_ (by rfl) (by rfl) (by rfl)
  refine FF.w_call (by assumption) (by assumption) (by assumption) (by rfl) (by intro _ _ _ _ _ _; exact FF.ar2 (fun _ _ => rfl)) ?_ (by decide) (by rfl) (by rfl)
  refine FF.w_acons ?_ ?_ (by rfl)
  exact FF.w_var rfl (by first | exact .inl rfl | exact .inr (.inl rfl) | exact .inr (.inr rfl)) (by decide) (by decide)
  refine FF.w_acons ?_ ?_ (by rfl)
  exact FF.w_var rfl (by first | exact .inl rfl | exact .inr (.inl rfl) | exact .inr (.inr rfl)) (by decide) (by decide)
  exact FF.w_anil
  refine FF.sg_tup rfl ?_ (by rfl) (by rfl)
  refine FF.sgs_cons ?_ ?_ (by rfl)
  exact FF.sg_name (by assumption) rfl (by first | exact .inl rfl | exact .inr rfl) (by first | exact .inl rfl | exact .inr rfl)
  refine FF.sgs_cons ?_ ?_ (by rfl)
  exact FF.sg_name (by assumption) rfl (by first | exact .inl rfl | exact .inr rfl) (by first | exact .inl rfl | exact .inr rfl)
  exact FF.sgs_nil
  refine FF.w_cons ?_ ?_
  refine FF.w_asg ?_ ?_ (by rfl) (by rfl) (by rfl)
  refine FF.w_cb (FF.cb_min2 rfl) (by rfl) (by assumption) PyProof.Rows.boot_min ?_ (by decide) (by decide) (by rfl) (by rfl)
  refine FF.w_acons ?_ ?_ (by rfl)
  exact FF.w_var rfl (by first | exact .inl rfl | exact .inr (.inl rfl) | exact .inr (.inr rfl)) (by decide) (by decide)
  refine FF.w_acons ?_ ?_ (by rfl)
  exact FF.w_int
  exact FF.w_anil
  exact FF.sg_name (by assumption) rfl (by first | exact .inl rfl | exact .inr rfl) (by first | exact .inl rfl | exact .inr rfl)
  refine FF.w_cons ?_ ?_
  refine FF.w_asg ?_ ?_ (by rfl) (by rfl) (by rfl)
  refine FF.w_bin ?_ ?_
  exact FF.w_var rfl (by first | exact .inl rfl | exact .inr (.inl rfl) | exact .inr (.inr rfl)) (by decide) (by decide)
  refine FF.w_call (by assumption) (by assumption) (by assumption) (by rfl) (by intro _ _ _ _ _ _; exact FF.ar2 (fun _ _ => rfl)) ?_ (by decide) (by rfl) (by rfl)
  refine FF.w_acons ?_ ?_ (by rfl)
  exact FF.w_var rfl (by first | exact .inl rfl | exact .inr (.inl rfl) | exact .inr (.inr rfl)) (by decide) (by decide)
  refine FF.w_acons ?_ ?_ (by rfl)
  refine FF.w_lst ?_
  refine FF.w_acons ?_ ?_ (by rfl)
  exact FF.w_int
  refine FF.w_acons ?_ ?_ (by rfl)
  exact FF.w_int
  refine FF.w_acons ?_ ?_ (by rfl)
  refine FF.w_bin ?_ ?_
  exact FF.w_int
  exact FF.w_var rfl (by first | exact .inl rfl | exact .inr (.inl rfl) | exact .inr (.inr rfl)) (by decide) (by decide)
  exact FF.w_anil
  exact FF.w_anil
  exact FF.sg_name (by assumption) rfl (by first | exact .inl rfl | exact .inr rfl) (by first | exact .inl rfl | exact .inr rfl)
  refine FF.w_cons ?_ ?_
  refine FF.w_asg ?_ ?_ (by rfl) (by rfl) (by rfl)
  refine FF.w_call (by assumption) (by assumption) (by assumption) (by rfl) (by intro _ _ _ _ _ _; exact FF.ar2 (fun _ _ => rfl)) ?_ (by decide) (by rfl) (by rfl)
  refine FF.w_acons ?_ ?_ (by rfl)
  exact FF.w_var rfl (by first | exact .inl rfl | exact .inr (.inl rfl) | exact .inr (.inr rfl)) (by decide) (by decide)
  refine FF.w_acons ?_ ?_ (by rfl)
  refine FF.w_lst ?_
  refine FF.w_acons ?_ ?_ (by rfl)
  exact FF.w_var rfl (by first | exact .inl rfl | exact .inr (.inl rfl) | exact .inr (.inr rfl)) (by decide) (by decide)
  refine FF.w_acons ?_ ?_ (by rfl)
  exact FF.w_var rfl (by first | exact .inl rfl | exact .inr (.inl rfl) | exact .inr (.inr rfl)) (by decide) (by decide)
  refine FF.w_acons ?_ ?_ (by rfl)
  refine FF.w_bin ?_ ?_
  exact FF.w_var rfl (by first | exact .inl rfl | exact .inr (.inl rfl) | exact .inr (.inr rfl)) (by decide) (by decide)
  exact FF.w_int
  refine FF.w_acons ?_ ?_ (by rfl)
  refine FF.w_bin ?_ ?_
  exact FF.w_var rfl (by first | exact .inl rfl | exact .inr (.inl rfl) | exact .inr (.inr rfl)) (by decide) (by decide)
  exact FF.w_int
  exact FF.w_anil
  exact FF.w_anil
  exact FF.sg_name (by assumption) rfl (by first | exact .inl rfl | exact .inr rfl) (by first | exact .inl rfl | exact .inr rfl)
  refine FF.w_cons ?_ ?_
  refine FF.w_asg ?_ ?_ (by rfl) (by rfl) (by rfl)
  refine FF.w_bin ?_ ?_
  refine FF.w_slice ?_ ?_ ?_
  refine FF.w_ct FF.cb_list (by rfl) (by assumption) PyProof.Rows.boot_list ?_ (by decide) (by decide) (by rfl) (by rfl)
  refine FF.w_acons ?_ ?_ (by rfl)
  exact FF.w_var rfl (by first | exact .inl rfl | exact .inr (.inl rfl) | exact .inr (.inr rfl)) (by decide) (by decide)
  exact FF.w_anil
  exact FF.w_no
  refine FF.w_yes ?_
  exact FF.w_int
  refine FF.w_lst ?_
  refine FF.w_acons ?_ ?_ (by rfl)
  refine FF.w_tup ?_
  refine FF.w_acons ?_ ?_ (by rfl)
  refine FF.w_bin ?_ ?_
  refine FF.w_bin ?_ ?_
  exact FF.w_var rfl (by first | exact .inl rfl | exact .inr (.inl rfl) | exact .inr (.inr rfl)) (by decide) (by decide)
  refine FF.w_bin ?_ ?_
  exact FF.w_int
  refine FF.w_bin ?_ ?_
  exact FF.w_int
  refine FF.w_call (by assumption) (by assumption) (by assumption) (by rfl) (by intro _ _ _ _ _ _; exact FF.ar2 (fun _ _ => rfl)) ?_ (by decide) (by rfl) (by rfl)
  refine FF.w_acons ?_ ?_ (by rfl)
  exact FF.w_var rfl (by first | exact .inl rfl | exact .inr (.inl rfl) | exact .inr (.inr rfl)) (by decide) (by decide)
  refine FF.w_acons ?_ ?_ (by rfl)
  exact FF.w_int
  exact FF.w_anil
  refine FF.w_call (by assumption) (by assumption) (by assumption) (by rfl) (by intro _ _ _ _ _ _; exact FF.ar2 (fun _ _ => rfl)) ?_ (by decide) (by rfl) (by rfl)
  refine FF.w_acons ?_ ?_ (by rfl)
  exact FF.w_var rfl (by first | exact .inl rfl | exact .inr (.inl rfl) | exact .inr (.inr rfl)) (by decide) (by decide)
  refine FF.w_acons ?_ ?_ (by rfl)
  refine FF.w_cb (FF.cb_min2 rfl) (by rfl) (by assumption) PyProof.Rows.boot_min ?_ (by decide) (by decide) (by rfl) (by rfl)
  refine FF.w_acons ?_ ?_ (by rfl)
  exact FF.w_var rfl (by first | exact .inl rfl | exact .inr (.inl rfl) | exact .inr (.inr rfl)) (by decide) (by decide)
  refine FF.w_acons ?_ ?_ (by rfl)
  exact FF.w_int
  exact FF.w_anil
  exact FF.w_anil
  refine FF.w_acons ?_ ?_ (by rfl)
  exact FF.w_int
  exact FF.w_anil
  exact FF.w_anil
  exact FF.sg_name (by assumption) rfl (by first | exact .inl rfl | exact .inr rfl) (by first | exact .inl rfl | exact .inr rfl)
  refine FF.w_cons ?_ ?_
  refine FF.w_expr ?_ (by rfl)
  refine FF.w_bm PySem.F.slot_list_append PySem.F.type_list_append FF.mt_appendD FF.fit_append (fun _ _ _ => rfl) ?_ ?_ (by rfl) (by rfl) (by rfl) (by rfl) (by rfl)
  exact FF.w_var rfl (by first | exact .inl rfl | exact .inr (.inl rfl) | exact .inr (.inr rfl)) (by decide) (by decide)
  refine FF.w_acons ?_ ?_ (by rfl)
  refine FF.w_call (by assumption) (by assumption) (by assumption) (by rfl) (by intro _ _ _ _ _ _; exact FF.ar5 (fun _ _ _ _ _ => rfl)) ?_ (by decide) (by rfl) (by rfl)
  refine FF.w_acons ?_ ?_ (by rfl)
  exact FF.w_var rfl (by first | exact .inl rfl | exact .inr (.inl rfl) | exact .inr (.inr rfl)) (by decide) (by decide)
  refine FF.w_acons ?_ ?_ (by rfl)
  exact FF.w_var rfl (by first | exact .inl rfl | exact .inr (.inl rfl) | exact .inr (.inr rfl)) (by decide) (by decide)
  refine FF.w_acons ?_ ?_ (by rfl)
  exact FF.w_var rfl (by first | exact .inl rfl | exact .inr (.inl rfl) | exact .inr (.inr rfl)) (by decide) (by decide)
  refine FF.w_acons ?_ ?_ (by rfl)
  exact FF.w_var rfl (by first | exact .inl rfl | exact .inr (.inl rfl) | exact .inr (.inr rfl)) (by decide) (by decide)
  refine FF.w_acons ?_ ?_ (by rfl)
  refine FF.w_cmp (by exact FF.un_of ‹Room _ _› (by decide)) ?_ ?_ (by rfl)
  refine FF.w_call (by assumption) (by assumption) (by assumption) (by rfl) (by intro _ _ _ _ _ _; exact FF.ar2 (fun _ _ => rfl)) ?_ (by decide) (by rfl) (by rfl)
  refine FF.w_acons ?_ ?_ (by rfl)
  exact FF.w_var rfl (by first | exact .inl rfl | exact .inr (.inl rfl) | exact .inr (.inr rfl)) (by decide) (by decide)
  refine FF.w_acons ?_ ?_ (by rfl)
  exact FF.w_int
  exact FF.w_anil
  exact FF.w_int
  exact FF.w_anil
  exact FF.w_anil
  refine FF.w_cons ?_ ?_
  refine FF.w_ret ?_
  refine FF.w_ct FF.cb_tuple (by rfl) (by assumption) PyProof.Rows.boot_tuple ?_ (by decide) (by decide) (by rfl) (by rfl)
  refine FF.w_acons ?_ ?_ (by rfl)
  refine FF.w_call (by assumption) (by assumption) (by assumption) (by rfl) (by intro _ _ _ _ _ _; exact FF.ar2 (fun _ _ => rfl)) ?_ (by decide) (by rfl) (by rfl)
  refine FF.w_acons ?_ ?_ (by rfl)
  exact FF.w_var rfl (by first | exact .inl rfl | exact .inr (.inl rfl) | exact .inr (.inr rfl)) (by decide) (by decide)
  refine FF.w_acons ?_ ?_ (by rfl)
  exact FF.w_var rfl (by first | exact .inl rfl | exact .inr (.inl rfl) | exact .inr (.inr rfl)) (by decide) (by decide)
  exact FF.w_anil
  exact FF.w_anil
  exact FF.w_nil
theorem S_q_law_room : FnScope ["kind"] ["kind"] (defScope s_q_law_room) := C8.fnScope_by (by decide +kernel)
theorem b_q_law_room {k : Nat} {φ : Fn} (C_q_law_up : Cal P w K mg base k (φ 61) s_q_law_up "_law_up" ["number", "step"])    (f : Addr) (cdv : Value) (A : Around) (outer : List Env) (s : Shared) (H : Hp) (hgd : A.guards = some []) (hr : Room k (A.deeper (envOfC "_law_room" (defScope s_q_law_room) s.heap.objs.size f cdv))) :
    SB (Xb P w K mg base ["kind"] "_law_room" (defScope s_q_law_room) f cdv A outer s H) (EK.none K) (defBody s_q_law_room) (exB φ d_q_law_room.body) := by
  have nd : (["kind"] : List Str).Nodup := by decide +kernel
  refine FF.w_cons ?_ ?_
  refine FF.w_ret ?_
  refine FF.w_call (by assumption) (by assumption) (by assumption) (by rfl) (by intro _ _ _ _ _ _; exact FF.ar2 (fun _ _ => rfl)) ?_ (by decide) (by rfl) (by rfl)
  refine FF.w_acons ?_ ?_ (by rfl)
  refine FF.w_ix (by exact FF.un_of ‹Room _ _› (by decide)) ?_ ?_ (fun _ _ => rfl)
  exact FF.w_var rfl (by first | exact .inl rfl | exact .inr (.inl rfl) | exact .inr (.inr rfl)) (by decide) (by decide)
  exact FF.w_int
  refine FF.w_acons ?_ ?_ (by rfl)
  refine FF.w_ix (by exact FF.un_of ‹Room _ _› (by decide)) ?_ ?_ (fun _ _ => rfl)
  exact FF.w_var rfl (by first | exact .inl rfl | exact .inr (.inl rfl) | exact .inr (.inr rfl)) (by decide) (by decide)
  exact FF.w_int
  exact FF.w_anil
  exact FF.w_nil
theorem S_q_law_lack : FnScope ["kind"] ["kind"] (defScope s_q_law_lack) := C8.fnScope_by (by decide +kernel)
theorem b_q_law_lack {k : Nat} {φ : Fn} (C_q_law_room : Cal P w K mg base k (φ 62) s_q_law_room "_law_room" ["kind"])    (f : Addr) (cdv : Value) (A : Around) (outer : List Env) (s : Shared) (H : Hp) (hgd : A.guards = some []) (hr : Room k (A.deeper (envOfC "_law_lack" (defScope s_q_law_lack) s.heap.objs.size f cdv))) :
    SB (Xb P w K mg base ["kind"] "_law_lack" (defScope s_q_law_lack) f cdv A outer s H) (EK.none K) (defBody s_q_law_lack) (exB φ d_q_law_lack.body) := by
  have nd : (["kind"] : List Str).Nodup := by decide +kernel
  refine FF.w_cons ?_ ?_
  refine FF.w_ret ?_
  refine FF.w_bin ?_ ?_
  refine FF.w_call (by assumption) (by assumption) (by assumption) (by rfl) (by intro _ _ _ _ _ _; exact FF.ar1 (fun _ => rfl)) ?_ (by decide) (by rfl) (by rfl)
  refine FF.w_acons ?_ ?_ (by rfl)
  exact FF.w_var rfl (by first | exact .inl rfl | exact .inr (.inl rfl) | exact .inr (.inr rfl)) (by decide) (by decide)
  exact FF.w_anil
  refine FF.w_ix (by exact FF.un_of ‹Room _ _› (by decide)) ?_ ?_ (fun _ _ => rfl)
  exact FF.w_var rfl (by first | exact .inl rfl | exact .inr (.inl rfl) | exact .inr (.inr rfl)) (by decide) (by decide)
  exact FF.w_int
  exact FF.w_nil
theorem S_q_law_power : FnScope ["number"] ["number"] (defScope s_q_law_power) := C8.fnScope_by (by decide +kernel)
theorem b_q_law_power {k : Nat} {φ : Fn}     (f : Addr) (cdv : Value) (A : Around) (outer : List Env) (s : Shared) (H : Hp) (hgd : A.guards = some []) (hr : Room k (A.deeper (envOfC "_law_power" (defScope s_q_law_power) s.heap.objs.size f cdv))) :
    SB (Xb P w K mg base ["number"] "_law_power" (defScope s_q_law_power) f cdv A outer s H) (EK.none K) (defBody s_q_law_power) (exB φ d_q_law_power.body) := by
  have nd : (["number"] : List Str).Nodup := by decide +kernel
  refine FF.w_cons ?_ ?_
  refine FF.w_ret ?_
  refine FF.w_bin ?_ ?_
  exact FF.w_var rfl (by first | exact .inl rfl | exact .inr (.inl rfl) | exact .inr (.inr rfl)) (by decide) (by decide)
  refine FF.w_neg ?_
  exact FF.w_var rfl (by first | exact .inl rfl | exact .inr (.inl rfl) | exact .inr (.inr rfl)) (by decide) (by decide)
  exact FF.w_nil
theorem S_q_law_pair : FnScope ["book", "x", "one", "y", "other"] ["book"] (defScope s_q_law_pair) := C8.fnScope_by (by decide +kernel)
theorem b_q_law_pair {k : Nat} {φ : Fn} (C_q_law_lack : Cal P w K mg base k (φ 63) s_q_law_lack "_law_lack" ["kind"]) (C_q_law_power : Cal P w K mg base k (φ 64) s_q_law_power "_law_power" ["number"]) (C_q_law_room : Cal P w K mg base k (φ 62) s_q_law_room "_law_room" ["kind"]) (m_enumerate : mg "enumerate" = none)   (f : Addr) (cdv : Value) (A : Around) (outer : List Env) (s : Shared) (H : Hp) (hgd : A.guards = some []) (hr : Room k (A.deeper (envOfC "_law_pair" (defScope s_q_law_pair) s.heap.objs.size f cdv))) :
    SB (Xb P w K mg base ["book", "x", "one", "y", "other"] "_law_pair" (defScope s_q_law_pair) f cdv A outer s H) (EK.none K) (defBody s_q_law_pair) (exB φ d_q_law_pair.body) := by
  have nd : (["book", "x", "one", "y", "other"] : List Str).Nodup := by decide +kernel
  refine FF.w_cons ?_ ?_
  refine FF.w_for rfl PassesOwn.never ?_ ?_ ?_ (by intro _; rfl)
  refine FF.w_enum (by rfl) (by assumption) ?_ (by rfl)
  exact FF.w_var rfl (by first | exact .inl rfl | exact .inr (.inl rfl) | exact .inr (.inr rfl)) (by decide) (by decide)
  refine FF.sg_tup rfl ?_ (by rfl) (by rfl)
  refine FF.sgs_cons ?_ ?_ (by rfl)
  exact FF.sg_name (by assumption) rfl (by first | exact .inl rfl | exact .inr rfl) (by first | exact .inl rfl | exact .inr rfl)
  refine FF.sgs_cons ?_ ?_ (by rfl)
  exact FF.sg_name (by assumption) rfl (by first | exact .inl rfl | exact .inr rfl) (by first | exact .inl rfl | exact .inr rfl)
  exact FF.sgs_nil
  refine FF.w_cons ?_ ?_
  refine FF.w_for rfl PassesOwn.never ?_ ?_ ?_ (by intro _; rfl)
  refine FF.w_enum (by rfl) (by assumption) ?_ (by rfl)
  exact FF.w_var rfl (by first | exact .inl rfl | exact .inr (.inl rfl) | exact .inr (.inr rfl)) (by decide) (by decide)
  refine FF.sg_tup rfl ?_ (by rfl) (by rfl)
  refine FF.sgs_cons ?_ ?_ (by rfl)
  exact FF.sg_name (by assumption) rfl (by first | exact .inl rfl | exact .inr rfl) (by first | exact .inl rfl | exact .inr rfl)
  refine FF.sgs_cons ?_ ?_ (by rfl)
  exact FF.sg_name (by assumption) rfl (by first | exact .inl rfl | exact .inr rfl) (by first | exact .inl rfl | exact .inr rfl)
  exact FF.sgs_nil
  refine FF.w_cons ?_ ?_
  refine FF.w_ite ?_ ?_ ?_
  refine FF.w_tcmp (by exact FF.un_of ‹Room _ _› (by decide)) ?_ ?_ (by rfl)
  refine FF.w_call (by assumption) (by assumption) (by assumption) (by rfl) (by intro _ _ _ _ _ _; exact FF.ar1 (fun _ => rfl)) ?_ (by decide) (by rfl) (by rfl)
  refine FF.w_acons ?_ ?_ (by rfl)
  exact FF.w_var rfl (by first | exact .inl rfl | exact .inr (.inl rfl) | exact .inr (.inr rfl)) (by decide) (by decide)
  exact FF.w_anil
  refine FF.w_call (by assumption) (by assumption) (by assumption) (by rfl) (by intro _ _ _ _ _ _; exact FF.ar1 (fun _ => rfl)) ?_ (by decide) (by rfl) (by rfl)
  refine FF.w_acons ?_ ?_ (by rfl)
  refine FF.w_call (by assumption) (by assumption) (by assumption) (by rfl) (by intro _ _ _ _ _ _; exact FF.ar1 (fun _ => rfl)) ?_ (by decide) (by rfl) (by rfl)
  refine FF.w_acons ?_ ?_ (by rfl)
  exact FF.w_var rfl (by first | exact .inl rfl | exact .inr (.inl rfl) | exact .inr (.inr rfl)) (by decide) (by decide)
  exact FF.w_anil
  exact FF.w_anil
  refine FF.w_cons ?_ ?_
  refine FF.w_ret ?_
  refine FF.w_tup ?_
  refine FF.w_acons ?_ ?_ (by rfl)
  exact FF.w_var rfl (by first | exact .inl rfl | exact .inr (.inl rfl) | exact .inr (.inr rfl)) (by decide) (by decide)
  refine FF.w_acons ?_ ?_ (by rfl)
  exact FF.w_var rfl (by first | exact .inl rfl | exact .inr (.inl rfl) | exact .inr (.inr rfl)) (by decide) (by decide)
  exact FF.w_anil
  exact FF.w_nil
  exact FF.w_nil
  exact FF.w_nil
  exact FF.w_nil
  refine FF.w_cons ?_ ?_
  refine FF.w_ret ?_
  exact FF.w_non
  exact FF.w_nil
theorem S_q_law_row_whole : FnScope ["book", "row", "end", "place"] ["book", "row"] (defScope s_q_law_row_whole) := C8.fnScope_by (by decide +kernel)
theorem b_q_law_row_whole {k : Nat} {φ : Fn} (C_q_law_up : Cal P w K mg base k (φ 61) s_q_law_up "_law_up" ["number", "step"]) (C_q_law_wide : Cal P w K mg base k (φ 208) s_q_law_wide "_law_wide" ["book", "places"])    (f : Addr) (cdv : Value) (A : Around) (outer : List Env) (s : Shared) (H : Hp) (hgd : A.guards = some []) (hr : Room k (A.deeper (envOfC "_law_row_whole" (defScope s_q_law_row_whole) s.heap.objs.size f cdv))) :
    SB (Xb P w K mg base ["book", "row", "end", "place"] "_law_row_whole" (defScope s_q_law_row_whole) f cdv A outer s H) (EK.none K) (defBody s_q_law_row_whole) (exB φ d_q_law_row_whole.body) := by
  have nd : (["book", "row", "end", "place"] : List Str).Nodup := by decide +kernel
  refine FF.w_cons ?_ ?_
  refine FF.w_asg ?_ ?_ (by rfl) (by rfl) (by rfl)
  exact FF.w_int
  exact FF.sg_name (by assumption) rfl (by first | exact .inl rfl | exact .inr rfl) (by first | exact .inl rfl | exact .inr rfl)
  refine FF.w_cons ?_ ?_
  refine FF.w_for rfl PassesOwn.never ?_ ?_ ?_ (by intro _; rfl)
  refine FF.w_iex ?_
  exact FF.w_var rfl (by first | exact .inl rfl | exact .inr (.inl rfl) | exact .inr (.inr rfl)) (by decide) (by decide)
  exact FF.sg_name (by assumption) rfl (by first | exact .inl rfl | exact .inr rfl) (by first | exact .inl rfl | exact .inr rfl)
  refine FF.w_cons ?_ ?_
  refine FF.w_asg ?_ ?_ (by rfl) (by rfl) (by rfl)
  refine FF.w_bin ?_ ?_
  refine FF.w_call (by assumption) (by assumption) (by assumption) (by rfl) (by intro _ _ _ _ _ _; exact FF.ar2 (fun _ _ => rfl)) ?_ (by decide) (by rfl) (by rfl)
  refine FF.w_acons ?_ ?_ (by rfl)
  exact FF.w_var rfl (by first | exact .inl rfl | exact .inr (.inl rfl) | exact .inr (.inr rfl)) (by decide) (by decide)
  refine FF.w_acons ?_ ?_ (by rfl)
  refine FF.w_ix (by exact FF.un_of ‹Room _ _› (by decide)) ?_ ?_ (fun _ _ => rfl)
  refine FF.w_ix (by exact FF.un_of ‹Room _ _› (by decide)) ?_ ?_ (fun _ _ => rfl)
  exact FF.w_var rfl (by first | exact .inl rfl | exact .inr (.inl rfl) | exact .inr (.inr rfl)) (by decide) (by decide)
  exact FF.w_var rfl (by first | exact .inl rfl | exact .inr (.inl rfl) | exact .inr (.inr rfl)) (by decide) (by decide)
  exact FF.w_int
  exact FF.w_anil
  refine FF.w_ix (by exact FF.un_of ‹Room _ _› (by decide)) ?_ ?_ (fun _ _ => rfl)
  refine FF.w_ix (by exact FF.un_of ‹Room _ _› (by decide)) ?_ ?_ (fun _ _ => rfl)
  exact FF.w_var rfl (by first | exact .inl rfl | exact .inr (.inl rfl) | exact .inr (.inr rfl)) (by decide) (by decide)
  exact FF.w_var rfl (by first | exact .inl rfl | exact .inr (.inl rfl) | exact .inr (.inr rfl)) (by decide) (by decide)
  exact FF.w_int
  exact FF.sg_name (by assumption) rfl (by first | exact .inl rfl | exact .inr rfl) (by first | exact .inl rfl | exact .inr rfl)
  exact FF.w_nil
  refine FF.w_cons ?_ ?_
  refine FF.w_ret ?_
  refine FF.w_call (by assumption) (by assumption) (by assumption) (by rfl) (by intro _ _ _ _ _ _; exact FF.ar2 (fun _ _ => rfl)) ?_ (by decide) (by rfl) (by rfl)
  refine FF.w_acons ?_ ?_ (by rfl)
  exact FF.w_var rfl (by first | exact .inl rfl | exact .inr (.inl rfl) | exact .inr (.inr rfl)) (by decide) (by decide)
  refine FF.w_acons ?_ ?_ (by rfl)
  refine FF.w_call (by assumption) (by assumption) (by assumption) (by rfl) (by intro _ _ _ _ _ _; exact FF.ar2 (fun _ _ => rfl)) ?_ (by decide) (by rfl) (by rfl)
  refine FF.w_acons ?_ ?_ (by rfl)
  exact FF.w_var rfl (by first | exact .inl rfl | exact .inr (.inl rfl) | exact .inr (.inr rfl)) (by decide) (by decide)
  refine FF.w_acons ?_ ?_ (by rfl)
  exact FF.w_var rfl (by first | exact .inl rfl | exact .inr (.inl rfl) | exact .inr (.inr rfl)) (by decide) (by decide)
  exact FF.w_anil
  exact FF.w_anil
  exact FF.w_nil
theorem S_power : FnScope ["number"] ["number"] (defScope s_power) := C8.fnScope_by (by decide +kernel)
theorem b_power {k : Nat} {φ : Fn}     (f : Addr) (cdv : Value) (A : Around) (outer : List Env) (s : Shared) (H : Hp) (hgd : A.guards = some []) (hr : Room k (A.deeper (envOfC "power" (defScope s_power) s.heap.objs.size f cdv))) :
    SB (Xb P w K mg base ["number"] "power" (defScope s_power) f cdv A outer s H) (EK.none K) (defBody s_power) (exB φ d_power.body) := by
  have nd : (["number"] : List Str).Nodup := by decide +kernel
  refine FF.w_cons ?_ ?_
  refine FF.w_ret ?_
  refine FF.w_bin ?_ ?_
  exact FF.w_var rfl (by first | exact .inl rfl | exact .inr (.inl rfl) | exact .inr (.inr rfl)) (by decide) (by decide)
  refine FF.w_neg ?_
  exact FF.w_var rfl (by first | exact .inl rfl | exact .inr (.inl rfl) | exact .inr (.inr rfl)) (by decide) (by decide)
  exact FF.w_nil
theorem S_raised : FnScope ["number", "step"] ["number", "step"] (defScope s_raised) := C8.fnScope_by (by decide +kernel)
theorem b_raised {k : Nat} {φ : Fn}     (f : Addr) (cdv : Value) (A : Around) (outer : List Env) (s : Shared) (H : Hp) (hgd : A.guards = some []) (hr : Room k (A.deeper (envOfC "raised" (defScope s_raised) s.heap.objs.size f cdv))) :
    SB (Xb P w K mg base ["number", "step"] "raised" (defScope s_raised) f cdv A outer s H) (EK.none K) (defBody s_raised) (exB φ d_raised.body) := by
  have nd : (["number", "step"] : List Str).Nodup := by decide +kernel
  refine FF.w_cons ?_ ?_
  refine FF.w_ret ?_
  refine FF.w_bin ?_ ?_
  refine FF.w_neg ?_
  refine FF.w_bin ?_ ?_
  refine FF.w_neg ?_
  exact FF.w_var rfl (by first | exact .inl rfl | exact .inr (.inl rfl) | exact .inr (.inr rfl)) (by decide) (by decide)
  exact FF.w_var rfl (by first | exact .inl rfl | exact .inr (.inl rfl) | exact .inr (.inr rfl)) (by decide) (by decide)
  exact FF.w_var rfl (by first | exact .inl rfl | exact .inr (.inl rfl) | exact .inr (.inr rfl)) (by decide) (by decide)
  exact FF.w_nil
theorem S_room : FnScope ["kind"] ["kind"] (defScope s_room) := C8.fnScope_by (by decide +kernel)
theorem b_room {k : Nat} {φ : Fn} (C_raised : Cal P w K mg base k (φ 9) s_raised "raised" ["number", "step"])    (f : Addr) (cdv : Value) (A : Around) (outer : List Env) (s : Shared) (H : Hp) (hgd : A.guards = some []) (hr : Room k (A.deeper (envOfC "room" (defScope s_room) s.heap.objs.size f cdv))) :
    SB (Xb P w K mg base ["kind"] "room" (defScope s_room) f cdv A outer s H) (EK.none K) (defBody s_room) (exB φ d_room.body) := by
  have nd : (["kind"] : List Str).Nodup := by decide +kernel
  refine FF.w_cons ?_ ?_
  refine FF.w_ret ?_
  refine FF.w_call (by assumption) (by assumption) (by assumption) (by rfl) (by intro _ _ _ _ _ _; exact FF.ar2 (fun _ _ => rfl)) ?_ (by decide) (by rfl) (by rfl)
  refine FF.w_acons ?_ ?_ (by rfl)
  refine FF.w_ix (by exact FF.un_of ‹Room _ _› (by decide)) ?_ ?_ (fun _ _ => rfl)
  exact FF.w_var rfl (by first | exact .inl rfl | exact .inr (.inl rfl) | exact .inr (.inr rfl)) (by decide) (by decide)
  exact FF.w_int
  refine FF.w_acons ?_ ?_ (by rfl)
  refine FF.w_ix (by exact FF.un_of ‹Room _ _› (by decide)) ?_ ?_ (fun _ _ => rfl)
  exact FF.w_var rfl (by first | exact .inl rfl | exact .inr (.inl rfl) | exact .inr (.inr rfl)) (by decide) (by decide)
  exact FF.w_int
  exact FF.w_anil
  exact FF.w_nil
theorem S_lacks : FnScope ["book", "kind"] ["book"] (defScope s_lacks) := C8.fnScope_by (by decide +kernel)
theorem b_lacks {k : Nat} {φ : Fn} (C_room : Cal P w K mg base k (φ 37) s_room "room" ["kind"]) (m_tuple : mg "tuple" = none)   (f : Addr) (cdv : Value) (A : Around) (outer : List Env) (s : Shared) (H : Hp) (hgd : A.guards = some []) (hr : Room k (A.deeper (envOfC "lacks" (defScope s_lacks) s.heap.objs.size f cdv))) :
    SB (Xb P w K mg base ["book", "kind"] "lacks" (defScope s_lacks) f cdv A outer s H) (EK.none K) (defBody s_lacks) (exB φ d_lacks.body) := by
  have nd : (["book", "kind"] : List Str).Nodup := by decide +kernel
  refine FF.w_cons ?_ ?_
  refine FF.w_ret ?_
  refine FF.w_ct FF.cb_tuple (by rfl) (by assumption) PyProof.Rows.boot_tuple ?_ (by decide) (by decide) (by rfl) (by rfl)
  refine FF.w_acons ?_ ?_ (by rfl)
  refine FF.w_comp rfl (by assumption) ?_ (by kernel_rfl) (fun _ _ _ _ _ => ?_) (fun _ _ _ _ _ => ?_) (fun _ _ _ _ _ => ?_) (by intro _; rfl) (by decide)
  refine FF.w_iex ?_
  exact FF.w_var rfl (by first | exact .inl rfl | exact .inr (.inl rfl) | exact .inr (.inr rfl)) (by decide) (by decide)
  exact FF.sg_name (by assumption) rfl (by first | exact .inl rfl | exact .inr rfl) (by first | exact .inl rfl | exact .inr rfl)
  exact FF.w_ifs0
  refine FF.w_bin ?_ ?_
  refine FF.w_call (by assumption) (by assumption) (by assumption) (by rfl) (by intro _ _ _ _ _ _; exact FF.ar1 (fun _ => rfl)) ?_ (by decide) (by rfl) (by rfl)
  refine FF.w_acons ?_ ?_ (by rfl)
  exact FF.w_var rfl (by first | exact .inl rfl | exact .inr (.inl rfl) | exact .inr (.inr rfl)) (by decide) (by decide)
  exact FF.w_anil
  refine FF.w_ix (by exact FF.un_of ‹Room _ _› (by decide)) ?_ ?_ (fun _ _ => rfl)
  exact FF.w_var rfl (by first | exact .inl rfl | exact .inr (.inl rfl) | exact .inr (.inr rfl)) (by decide) (by decide)
  exact FF.w_int
  exact FF.w_anil
  exact FF.w_nil
theorem S_rooms : FnScope ["book", "kind"] ["book"] (defScope s_rooms) := C8.fnScope_by (by decide +kernel)
theorem b_rooms {k : Nat} {φ : Fn} (C_room : Cal P w K mg base k (φ 37) s_room "room" ["kind"]) (m_tuple : mg "tuple" = none)   (f : Addr) (cdv : Value) (A : Around) (outer : List Env) (s : Shared) (H : Hp) (hgd : A.guards = some []) (hr : Room k (A.deeper (envOfC "rooms" (defScope s_rooms) s.heap.objs.size f cdv))) :
    SB (Xb P w K mg base ["book", "kind"] "rooms" (defScope s_rooms) f cdv A outer s H) (EK.none K) (defBody s_rooms) (exB φ d_rooms.body) := by
  have nd : (["book", "kind"] : List Str).Nodup := by decide +kernel
  refine FF.w_cons ?_ ?_
  refine FF.w_ret ?_
  refine FF.w_ct FF.cb_tuple (by rfl) (by assumption) PyProof.Rows.boot_tuple ?_ (by decide) (by decide) (by rfl) (by rfl)
  refine FF.w_acons ?_ ?_ (by rfl)
  refine FF.w_comp rfl (by assumption) ?_ (by kernel_rfl) (fun _ _ _ _ _ => ?_) (fun _ _ _ _ _ => ?_) (fun _ _ _ _ _ => ?_) (by intro _; rfl) (by decide)
  refine FF.w_iex ?_
  exact FF.w_var rfl (by first | exact .inl rfl | exact .inr (.inl rfl) | exact .inr (.inr rfl)) (by decide) (by decide)
  exact FF.sg_name (by assumption) rfl (by first | exact .inl rfl | exact .inr rfl) (by first | exact .inl rfl | exact .inr rfl)
  exact FF.w_ifs0
  refine FF.w_call (by assumption) (by assumption) (by assumption) (by rfl) (by intro _ _ _ _ _ _; exact FF.ar1 (fun _ => rfl)) ?_ (by decide) (by rfl) (by rfl)
  refine FF.w_acons ?_ ?_ (by rfl)
  exact FF.w_var rfl (by first | exact .inl rfl | exact .inr (.inl rfl) | exact .inr (.inr rfl)) (by decide) (by decide)
  exact FF.w_anil
  exact FF.w_anil
  exact FF.w_nil
theorem S_level_error : FnScope ["book", "powers", "x", "lack", "y", "own", "room"] ["book"] (defScope s_level_error) := C8.fnScope_by (by decide +kernel)
theorem b_level_error {k : Nat} {φ : Fn} (C_rooms : Cal P w K mg base k (φ 38) s_rooms "rooms" ["book"]) (C_power : Cal P w K mg base k (φ 40) s_power "power" ["number"]) (C_lacks : Cal P w K mg base k (φ 39) s_lacks "lacks" ["book"]) (m_enumerate : mg "enumerate" = none)   (f : Addr) (cdv : Value) (A : Around) (outer : List Env) (s : Shared) (H : Hp) (hgd : A.guards = some []) (hr : Room k (A.deeper (envOfC "level_error" (defScope s_level_error) s.heap.objs.size f cdv))) :
    SB (Xb P w K mg base ["book", "powers", "x", "lack", "y", "own", "room"] "level_error" (defScope s_level_error) f cdv A outer s H) (EK.none K) (defBody s_level_error) (exB φ d_level_error.body) := by
  have nd : (["book", "powers", "x", "lack", "y", "own", "room"] : List Str).Nodup := by decide +kernel
  refine FF.w_cons ?_ ?_
  refine FF.w_setLc rfl (by assumption) (by rfl) (by rfl) (by rfl) ?_ (by kernel_rfl) (fun _ _ _ _ _ => ?_) (fun _ _ _ _ _ => ?_) (fun _ _ _ _ _ => ?_) (by intro _; rfl) (by decide)
  refine FF.w_iex ?_
  refine FF.w_call (by assumption) (by assumption) (by assumption) (by rfl) (by intro _ _ _ _ _ _; exact FF.ar1 (fun _ => rfl)) ?_ (by decide) (by rfl) (by rfl)
  refine FF.w_acons ?_ ?_ (by rfl)
  exact FF.w_var rfl (by first | exact .inl rfl | exact .inr (.inl rfl) | exact .inr (.inr rfl)) (by decide) (by decide)
  exact FF.w_anil
  exact FF.sg_name (by assumption) rfl (by first | exact .inl rfl | exact .inr rfl) (by first | exact .inl rfl | exact .inr rfl)
  exact FF.w_ifs0
  refine FF.w_call (by assumption) (by assumption) (by assumption) (by rfl) (by intro _ _ _ _ _ _; exact FF.ar1 (fun _ => rfl)) ?_ (by decide) (by rfl) (by rfl)
  refine FF.w_acons ?_ ?_ (by rfl)
  exact FF.w_var rfl (by first | exact .inl rfl | exact .inr (.inl rfl) | exact .inr (.inr rfl)) (by decide) (by decide)
  exact FF.w_anil
  refine FF.w_cons ?_ ?_
  refine FF.w_for rfl PassesOwn.never ?_ ?_ ?_ (by intro _; rfl)
  refine FF.w_enum (by rfl) (by assumption) ?_ (by rfl)
  refine FF.w_call (by assumption) (by assumption) (by assumption) (by rfl) (by intro _ _ _ _ _ _; exact FF.ar1 (fun _ => rfl)) ?_ (by decide) (by rfl) (by rfl)
  refine FF.w_acons ?_ ?_ (by rfl)
  exact FF.w_var rfl (by first | exact .inl rfl | exact .inr (.inl rfl) | exact .inr (.inr rfl)) (by decide) (by decide)
  exact FF.w_anil
  refine FF.sg_tup rfl ?_ (by rfl) (by rfl)
  refine FF.sgs_cons ?_ ?_ (by rfl)
  exact FF.sg_name (by assumption) rfl (by first | exact .inl rfl | exact .inr rfl) (by first | exact .inl rfl | exact .inr rfl)
  refine FF.sgs_cons ?_ ?_ (by rfl)
  exact FF.sg_name (by assumption) rfl (by first | exact .inl rfl | exact .inr rfl) (by first | exact .inl rfl | exact .inr rfl)
  exact FF.sgs_nil
  refine FF.w_cons ?_ ?_
  refine FF.w_for rfl PassesOwn.never ?_ ?_ ?_ (by intro _; rfl)
  refine FF.w_enum (by rfl) (by assumption) ?_ (by rfl)
  exact FF.w_var rfl (by first | exact .inl rfl | exact .inr (.inl rfl) | exact .inr (.inr rfl)) (by decide) (by decide)
  refine FF.sg_tup rfl ?_ (by rfl) (by rfl)
  refine FF.sgs_cons ?_ ?_ (by rfl)
  exact FF.sg_name (by assumption) rfl (by first | exact .inl rfl | exact .inr rfl) (by first | exact .inl rfl | exact .inr rfl)
  refine FF.sgs_cons ?_ ?_ (by rfl)
  exact FF.sg_name (by assumption) rfl (by first | exact .inl rfl | exact .inr rfl) (by first | exact .inl rfl | exact .inr rfl)
  exact FF.sgs_nil
  refine FF.w_cons ?_ ?_
  refine FF.w_ite ?_ ?_ ?_
  refine FF.w_tcmp (by exact FF.un_of ‹Room _ _› (by decide)) ?_ ?_ (by rfl)
  exact FF.w_var rfl (by first | exact .inl rfl | exact .inr (.inl rfl) | exact .inr (.inr rfl)) (by decide) (by decide)
  exact FF.w_var rfl (by first | exact .inl rfl | exact .inr (.inl rfl) | exact .inr (.inr rfl)) (by decide) (by decide)
  refine FF.w_cons ?_ ?_
  refine FF.w_ret ?_
  refine FF.w_tup ?_
  refine FF.w_acons ?_ ?_ (by rfl)
  exact FF.w_var rfl (by first | exact .inl rfl | exact .inr (.inl rfl) | exact .inr (.inr rfl)) (by decide) (by decide)
  refine FF.w_acons ?_ ?_ (by rfl)
  exact FF.w_var rfl (by first | exact .inl rfl | exact .inr (.inl rfl) | exact .inr (.inr rfl)) (by decide) (by decide)
  exact FF.w_anil
  exact FF.w_nil
  exact FF.w_nil
  exact FF.w_nil
  exact FF.w_nil
  refine FF.w_cons ?_ ?_
  refine FF.w_ret ?_
  exact FF.w_non
  exact FF.w_nil
theorem S_greatest_alignment : FnScope ["book", "places", "place"] ["book", "places"] (defScope s_greatest_alignment) := C8.fnScope_by (by decide +kernel)
theorem b_greatest_alignment {k : Nat} {φ : Fn}  (m_max : mg "max" = none)   (f : Addr) (cdv : Value) (A : Around) (outer : List Env) (s : Shared) (H : Hp) (hgd : A.guards = some []) (hr : Room k (A.deeper (envOfC "greatest_alignment" (defScope s_greatest_alignment) s.heap.objs.size f cdv))) :
    SB (Xb P w K mg base ["book", "places", "place"] "greatest_alignment" (defScope s_greatest_alignment) f cdv A outer s H) (EK.none K) (defBody s_greatest_alignment) (exB φ d_greatest_alignment.body) := by
  have nd : (["book", "places", "place"] : List Str).Nodup := by decide +kernel
  refine FF.w_cons ?_ ?_
  refine FF.w_ret ?_
  refine FF.w_cb (FF.cb_max rfl (by exact FF.un_of ‹Room _ _› (by decide))) (by rfl) (by assumption) PyProof.Rows.boot_max ?_ (by decide) (by decide) (by rfl) (by rfl)
  refine FF.w_acons ?_ ?_ (by rfl)
  refine FF.w_comp rfl (by assumption) ?_ (by kernel_rfl) (fun _ _ _ _ _ => ?_) (fun _ _ _ _ _ => ?_) (fun _ _ _ _ _ => ?_) (by intro _; rfl) (by decide)
  refine FF.w_iex ?_
  exact FF.w_var rfl (by first | exact .inl rfl | exact .inr (.inl rfl) | exact .inr (.inr rfl)) (by decide) (by decide)
  exact FF.sg_name (by assumption) rfl (by first | exact .inl rfl | exact .inr rfl) (by first | exact .inl rfl | exact .inr rfl)
  exact FF.w_ifs0
  refine FF.w_ix (by exact FF.un_of ‹Room _ _› (by decide)) ?_ ?_ (fun _ _ => rfl)
  refine FF.w_ix (by exact FF.un_of ‹Room _ _› (by decide)) ?_ ?_ (fun _ _ => rfl)
  exact FF.w_var rfl (by first | exact .inl rfl | exact .inr (.inl rfl) | exact .inr (.inr rfl)) (by decide) (by decide)
  exact FF.w_var rfl (by first | exact .inl rfl | exact .inr (.inl rfl) | exact .inr (.inr rfl)) (by decide) (by decide)
  exact FF.w_int
  exact FF.w_anil
  exact FF.w_nil
theorem S_places_of : FnScope ["record", "place", "many"] ["record"] (defScope s_places_of) := C8.fnScope_by (by decide +kernel)
theorem b_places_of {k : Nat} {φ : Fn}  (m_enumerate : mg "enumerate" = none)   (f : Addr) (cdv : Value) (A : Around) (outer : List Env) (s : Shared) (H : Hp) (hgd : A.guards = some []) (hr : Room k (A.deeper (envOfC "places_of" (defScope s_places_of) s.heap.objs.size f cdv))) :
    SB (Xb P w K mg base ["record", "place", "many"] "places_of" (defScope s_places_of) f cdv A outer s H) (EK.none K) (defBody s_places_of) (exB φ d_places_of.body) := by
  have nd : (["record", "place", "many"] : List Str).Nodup := by decide +kernel
  refine FF.w_cons ?_ ?_
  refine FF.w_ret ?_
  refine FF.w_comp rfl (by assumption) ?_ (by kernel_rfl) (fun _ _ _ _ _ => ?_) (fun _ _ _ _ _ => ?_) (fun _ _ _ _ _ => ?_) (by intro _; rfl) (by decide)
  refine FF.w_enum (by rfl) (by assumption) ?_ (by rfl)
  exact FF.w_var rfl (by first | exact .inl rfl | exact .inr (.inl rfl) | exact .inr (.inr rfl)) (by decide) (by decide)
  refine FF.sg_tup rfl ?_ (by rfl) (by rfl)
  refine FF.sgs_cons ?_ ?_ (by rfl)
  exact FF.sg_name (by assumption) rfl (by first | exact .inl rfl | exact .inr rfl) (by first | exact .inl rfl | exact .inr rfl)
  refine FF.sgs_cons ?_ ?_ (by rfl)
  exact FF.sg_name (by assumption) rfl (by first | exact .inl rfl | exact .inr rfl) (by first | exact .inl rfl | exact .inr rfl)
  exact FF.sgs_nil
  refine FF.w_ifs1 ?_
  refine FF.w_tcmp (by exact FF.un_of ‹Room _ _› (by decide)) ?_ ?_ (by rfl)
  exact FF.w_var rfl (by first | exact .inl rfl | exact .inr (.inl rfl) | exact .inr (.inr rfl)) (by decide) (by decide)
  exact FF.w_int
  exact FF.w_var rfl (by first | exact .inl rfl | exact .inr (.inl rfl) | exact .inr (.inr rfl)) (by decide) (by decide)
  exact FF.w_nil
theorem S_rooms_whole : FnScope ["book", "record", "total", "many", "own"] ["book", "record"] (defScope s_rooms_whole) := C8.fnScope_by (by decide +kernel)
theorem b_rooms_whole {k : Nat} {φ : Fn} (C_rooms : Cal P w K mg base k (φ 38) s_rooms "rooms" ["book"]) (C_raised : Cal P w K mg base k (φ 9) s_raised "raised" ["number", "step"]) (C_greatest_alignment : Cal P w K mg base k (φ 11) s_greatest_alignment "greatest_alignment" ["book", "places"]) (C_places_of : Cal P w K mg base k (φ 42) s_places_of "places_of" ["record"]) (m_sum : mg "sum" = none) (m_zip : mg "zip" = none)   (f : Addr) (cdv : Value) (A : Around) (outer : List Env) (s : Shared) (H : Hp) (hgd : A.guards = some []) (hr : Room k (A.deeper (envOfC "rooms_whole" (defScope s_rooms_whole) s.heap.objs.size f cdv))) :
    SB (Xb P w K mg base ["book", "record", "total", "many", "own"] "rooms_whole" (defScope s_rooms_whole) f cdv A outer s H) (EK.none K) (defBody s_rooms_whole) (exB φ d_rooms_whole.body) := by
  have nd : (["book", "record", "total", "many", "own"] : List Str).Nodup := by decide +kernel
  refine FF.w_cons ?_ ?_
  refine FF.w_asg ?_ ?_ (by rfl) (by rfl) (by rfl)
  refine FF.w_cb (FF.cb_sum rfl) (by rfl) (by assumption) PyProof.Rows.boot_sum ?_ (by decide) (by decide) (by rfl) (by rfl)
  refine FF.w_acons ?_ ?_ (by rfl)
  refine FF.w_comp rfl (by assumption) ?_ (by kernel_rfl) (fun _ _ _ _ _ => ?_) (fun _ _ _ _ _ => ?_) (fun _ _ _ _ _ => ?_) (by intro _; rfl) (by decide)
  refine FF.w_zip (by rfl) (by assumption) ?_ ?_ (by rfl) (by rfl) (by rfl)
  exact FF.w_var rfl (by first | exact .inl rfl | exact .inr (.inl rfl) | exact .inr (.inr rfl)) (by decide) (by decide)
  refine FF.w_call (by assumption) (by assumption) (by assumption) (by rfl) (by intro _ _ _ _ _ _; exact FF.ar1 (fun _ => rfl)) ?_ (by decide) (by rfl) (by rfl)
  refine FF.w_acons ?_ ?_ (by rfl)
  exact FF.w_var rfl (by first | exact .inl rfl | exact .inr (.inl rfl) | exact .inr (.inr rfl)) (by decide) (by decide)
  exact FF.w_anil
  refine FF.sg_tup rfl ?_ (by rfl) (by rfl)
  refine FF.sgs_cons ?_ ?_ (by rfl)
  exact FF.sg_name (by assumption) rfl (by first | exact .inl rfl | exact .inr rfl) (by first | exact .inl rfl | exact .inr rfl)
  refine FF.sgs_cons ?_ ?_ (by rfl)
  exact FF.sg_name (by assumption) rfl (by first | exact .inl rfl | exact .inr rfl) (by first | exact .inl rfl | exact .inr rfl)
  exact FF.sgs_nil
  exact FF.w_ifs0
  refine FF.w_bin ?_ ?_
  exact FF.w_var rfl (by first | exact .inl rfl | exact .inr (.inl rfl) | exact .inr (.inr rfl)) (by decide) (by decide)
  exact FF.w_var rfl (by first | exact .inl rfl | exact .inr (.inl rfl) | exact .inr (.inr rfl)) (by decide) (by decide)
  exact FF.w_anil
  exact FF.sg_name (by assumption) rfl (by first | exact .inl rfl | exact .inr rfl) (by first | exact .inl rfl | exact .inr rfl)
  refine FF.w_cons ?_ ?_
  refine FF.w_ret ?_
  refine FF.w_call (by assumption) (by assumption) (by assumption) (by rfl) (by intro _ _ _ _ _ _; exact FF.ar2 (fun _ _ => rfl)) ?_ (by decide) (by rfl) (by rfl)
  refine FF.w_acons ?_ ?_ (by rfl)
  exact FF.w_var rfl (by first | exact .inl rfl | exact .inr (.inl rfl) | exact .inr (.inr rfl)) (by decide) (by decide)
  refine FF.w_acons ?_ ?_ (by rfl)
  refine FF.w_call (by assumption) (by assumption) (by assumption) (by rfl) (by intro _ _ _ _ _ _; exact FF.ar2 (fun _ _ => rfl)) ?_ (by decide) (by rfl) (by rfl)
  refine FF.w_acons ?_ ?_ (by rfl)
  exact FF.w_var rfl (by first | exact .inl rfl | exact .inr (.inl rfl) | exact .inr (.inr rfl)) (by decide) (by decide)
  refine FF.w_acons ?_ ?_ (by rfl)
  refine FF.w_call (by assumption) (by assumption) (by assumption) (by rfl) (by intro _ _ _ _ _ _; exact FF.ar1 (fun _ => rfl)) ?_ (by decide) (by rfl) (by rfl)
  refine FF.w_acons ?_ ?_ (by rfl)
  exact FF.w_var rfl (by first | exact .inl rfl | exact .inr (.inl rfl) | exact .inr (.inr rfl)) (by decide) (by decide)
  exact FF.w_anil
  exact FF.w_anil
  exact FF.w_anil
  exact FF.w_nil
theorem S_laid : FnScope ["book", "row", "found", "end", "place", "size", "alignment", "begin"] ["book", "row"] (defScope s_laid) := C8.fnScope_by (by decide +kernel)
theorem b_laid {k : Nat} {φ : Fn} (C_raised : Cal P w K mg base k (φ 9) s_raised "raised" ["number", "step"]) (m_tuple : mg "tuple" = none)   (f : Addr) (cdv : Value) (A : Around) (outer : List Env) (s : Shared) (H : Hp) (hgd : A.guards = some []) (hr : Room k (A.deeper (envOfC "laid" (defScope s_laid) s.heap.objs.size f cdv))) :
    SB (Xb P w K mg base ["book", "row", "found", "end", "place", "size", "alignment", "begin"] "laid" (defScope s_laid) f cdv A outer s H) (EK.none K) (defBody s_laid) (exB φ d_laid.body) := by
  have nd : (["book", "row", "found", "end", "place", "size", "alignment", "begin"] : List Str).Nodup := by decide +kernel
  refine FF.w_cons ?_ ?_
  refine FF.w_par rfl (by assumption) (by rfl) (by rfl) (by decide) (by rfl) (by rfl) ?_ (by rfl) (by rfl)
  refine FF.w_acons ?_ ?_ (by rfl)
  refine FF.w_lst ?_
  exact FF.w_anil
  refine FF.w_acons ?_ ?_ (by rfl)
  exact FF.w_int
  exact FF.w_anil
  refine FF.w_cons ?_ ?_
  refine FF.w_for rfl PassesOwn.never ?_ ?_ ?_ (by intro _; rfl)
  refine FF.w_iex ?_
  exact FF.w_var rfl (by first | exact .inl rfl | exact .inr (.inl rfl) | exact .inr (.inr rfl)) (by decide) (by decide)
  exact FF.sg_name (by assumption) rfl (by first | exact .inl rfl | exact .inr rfl) (by first | exact .inl rfl | exact .inr rfl)
  refine FF.w_cons ?_ ?_
  refine FF.w_asg ?_ ?_ (by rfl) (by rfl) (by rfl)
  refine FF.w_ix (by exact FF.un_of ‹Room _ _› (by decide)) ?_ ?_ (fun _ _ => rfl)
  exact FF.w_var rfl (by first | exact .inl rfl | exact .inr (.inl rfl) | exact .inr (.inr rfl)) (by decide) (by decide)
  exact FF.w_var rfl (by first | exact .inl rfl | exact .inr (.inl rfl) | exact .inr (.inr rfl)) (by decide) (by decide)
  refine FF.sg_tup rfl ?_ (by rfl) (by rfl)
  refine FF.sgs_cons ?_ ?_ (by rfl)
  exact FF.sg_name (by assumption) rfl (by first | exact .inl rfl | exact .inr rfl) (by first | exact .inl rfl | exact .inr rfl)
  refine FF.sgs_cons ?_ ?_ (by rfl)
  exact FF.sg_name (by assumption) rfl (by first | exact .inl rfl | exact .inr rfl) (by first | exact .inl rfl | exact .inr rfl)
  exact FF.sgs_nil
  refine FF.w_cons ?_ ?_
  refine FF.w_asg ?_ ?_ (by rfl) (by rfl) (by rfl)
  refine FF.w_call (by assumption) (by assumption) (by assumption) (by rfl) (by intro _ _ _ _ _ _; exact FF.ar2 (fun _ _ => rfl)) ?_ (by decide) (by rfl) (by rfl)
  refine FF.w_acons ?_ ?_ (by rfl)
  exact FF.w_var rfl (by first | exact .inl rfl | exact .inr (.inl rfl) | exact .inr (.inr rfl)) (by decide) (by decide)
  refine FF.w_acons ?_ ?_ (by rfl)
  exact FF.w_var rfl (by first | exact .inl rfl | exact .inr (.inl rfl) | exact .inr (.inr rfl)) (by decide) (by decide)
  exact FF.w_anil
  exact FF.sg_name (by assumption) rfl (by first | exact .inl rfl | exact .inr rfl) (by first | exact .inl rfl | exact .inr rfl)
  refine FF.w_cons ?_ ?_
  refine FF.w_asg ?_ ?_ (by rfl) (by rfl) (by rfl)
  refine FF.w_bin ?_ ?_
  exact FF.w_var rfl (by first | exact .inl rfl | exact .inr (.inl rfl) | exact .inr (.inr rfl)) (by decide) (by decide)
  exact FF.w_var rfl (by first | exact .inl rfl | exact .inr (.inl rfl) | exact .inr (.inr rfl)) (by decide) (by decide)
  exact FF.sg_name (by assumption) rfl (by first | exact .inl rfl | exact .inr rfl) (by first | exact .inl rfl | exact .inr rfl)
  refine FF.w_cons ?_ ?_
  refine FF.w_expr ?_ (by rfl)
  refine FF.w_bm PySem.F.slot_list_append PySem.F.type_list_append FF.mt_appendD FF.fit_append (fun _ _ _ => rfl) ?_ ?_ (by rfl) (by rfl) (by rfl) (by rfl) (by rfl)
  exact FF.w_var rfl (by first | exact .inl rfl | exact .inr (.inl rfl) | exact .inr (.inr rfl)) (by decide) (by decide)
  refine FF.w_acons ?_ ?_ (by rfl)
  refine FF.w_tup ?_
  refine FF.w_acons ?_ ?_ (by rfl)
  exact FF.w_var rfl (by first | exact .inl rfl | exact .inr (.inl rfl) | exact .inr (.inr rfl)) (by decide) (by decide)
  refine FF.w_acons ?_ ?_ (by rfl)
  exact FF.w_var rfl (by first | exact .inl rfl | exact .inr (.inl rfl) | exact .inr (.inr rfl)) (by decide) (by decide)
  exact FF.w_anil
  exact FF.w_anil
  exact FF.w_nil
  refine FF.w_cons ?_ ?_
  refine FF.w_ret ?_
  refine FF.w_ct FF.cb_tuple (by rfl) (by assumption) PyProof.Rows.boot_tuple ?_ (by decide) (by decide) (by rfl) (by rfl)
  refine FF.w_acons ?_ ?_ (by rfl)
  exact FF.w_var rfl (by first | exact .inl rfl | exact .inr (.inl rfl) | exact .inr (.inr rfl)) (by decide) (by decide)
  exact FF.w_anil
  exact FF.w_nil
theorem S_row_whole : FnScope ["book", "row"] ["book", "row"] (defScope s_row_whole) := C8.fnScope_by (by decide +kernel)
theorem b_row_whole {k : Nat} {φ : Fn} (C_raised : Cal P w K mg base k (φ 9) s_raised "raised" ["number", "step"]) (C_laid : Cal P w K mg base k (φ 10) s_laid "laid" ["book", "row"]) (C_greatest_alignment : Cal P w K mg base k (φ 11) s_greatest_alignment "greatest_alignment" ["book", "places"])    (f : Addr) (cdv : Value) (A : Around) (outer : List Env) (s : Shared) (H : Hp) (hgd : A.guards = some []) (hr : Room k (A.deeper (envOfC "row_whole" (defScope s_row_whole) s.heap.objs.size f cdv))) :
    SB (Xb P w K mg base ["book", "row"] "row_whole" (defScope s_row_whole) f cdv A outer s H) (EK.none K) (defBody s_row_whole) (exB φ d_row_whole.body) := by
  have nd : (["book", "row"] : List Str).Nodup := by decide +kernel
  refine FF.w_cons ?_ ?_
  refine FF.w_ret ?_
  refine FF.w_call (by assumption) (by assumption) (by assumption) (by rfl) (by intro _ _ _ _ _ _; exact FF.ar2 (fun _ _ => rfl)) ?_ (by decide) (by rfl) (by rfl)
  refine FF.w_acons ?_ ?_ (by rfl)
  refine FF.w_ix (by exact FF.un_of ‹Room _ _› (by decide)) ?_ ?_ (fun _ _ => rfl)
  refine FF.w_ix (by exact FF.un_of ‹Room _ _› (by decide)) ?_ ?_ (fun _ _ => rfl)
  refine FF.w_call (by assumption) (by assumption) (by assumption) (by rfl) (by intro _ _ _ _ _ _; exact FF.ar2 (fun _ _ => rfl)) ?_ (by decide) (by rfl) (by rfl)
  refine FF.w_acons ?_ ?_ (by rfl)
  exact FF.w_var rfl (by first | exact .inl rfl | exact .inr (.inl rfl) | exact .inr (.inr rfl)) (by decide) (by decide)
  refine FF.w_acons ?_ ?_ (by rfl)
  exact FF.w_var rfl (by first | exact .inl rfl | exact .inr (.inl rfl) | exact .inr (.inr rfl)) (by decide) (by decide)
  exact FF.w_anil
  refine FF.w_neg ?_
  exact FF.w_int
  exact FF.w_int
  refine FF.w_acons ?_ ?_ (by rfl)
  refine FF.w_call (by assumption) (by assumption) (by assumption) (by rfl) (by intro _ _ _ _ _ _; exact FF.ar2 (fun _ _ => rfl)) ?_ (by decide) (by rfl) (by rfl)
  refine FF.w_acons ?_ ?_ (by rfl)
  exact FF.w_var rfl (by first | exact .inl rfl | exact .inr (.inl rfl) | exact .inr (.inr rfl)) (by decide) (by decide)
  refine FF.w_acons ?_ ?_ (by rfl)
  exact FF.w_var rfl (by first | exact .inl rfl | exact .inr (.inl rfl) | exact .inr (.inr rfl)) (by decide) (by decide)
  exact FF.w_anil
  exact FF.w_anil
  exact FF.w_nil
theorem S_law : FnScope ["script", "deck", "turn", "book", "is_level", "record", "least", "places", "place", "many", "nth", "row", "due"] ["script"] (defScope s_law) := C8.fnScope_by (by decide +kernel)
theorem b_law {k : Nat} {φ : Fn} (C_q_law_deck : Cal P w K mg base k (φ 206) s_q_law_deck "_law_deck" ["script"]) (C_q_law_level : Cal P w K mg base k (φ 56) s_q_law_level "_law_level" ["deck", "kinds"]) (C_q_law_draw : Cal P w K mg base k (φ 53) s_q_law_draw "_law_draw" ["deck", "many"]) (C_q_law_just : Cal P w K mg base k (φ 58) s_q_law_just "_law_just" ["deck", "kinds"]) (C_q_law_pair : Cal P w K mg base k (φ 65) s_q_law_pair "_law_pair" ["book"]) (C_level_error : Cal P w K mg base k (φ 60) s_level_error "level_error" ["book"]) (C_q_law_record : Cal P w K mg base k (φ 207) s_q_law_record "_law_record" ["deck", "book", "many"]) (C_q_law_pick : Cal P w K mg base k (φ 54) s_q_law_pick "_law_pick" ["deck", "items"]) (C_q_law_least : Cal P w K mg base k (φ 209) s_q_law_least "_law_least" ["book", "record"]) (C_rooms_whole : Cal P w K mg base k (φ 48) s_rooms_whole "rooms_whole" ["book", "record"]) (C_q_law_mixed : Cal P w K mg base k (φ 57) s_q_law_mixed "_law_mixed" ["deck", "items"]) (C_q_law_row_whole : Cal P w K mg base k (φ 210) s_q_law_row_whole "_law_row_whole" ["book", "row"]) (C_row_whole : Cal P w K mg base k (φ 12) s_row_whole "row_whole" ["book", "row"]) (m_range : mg "range" = none) (m_enumerate : mg "enumerate" = none) (m_tuple : mg "tuple" = none) (m_repr : mg "repr" = none)   (f : Addr) (cdv : Value) (A : Around) (outer : List Env) (s : Shared) (H : Hp) (hgd : A.guards = some []) (hr : Room k (A.deeper (envOfC "law" (defScope s_law) s.heap.objs.size f cdv))) :
    SB (Xb P w K mg base ["script", "deck", "turn", "book", "is_level", "record", "least", "places", "place", "many", "nth", "row", "due"] "law" (defScope s_law) f cdv A outer s H) (EK.none K) (defBody s_law) (exB φ d_law.body) := by
  have nd : (["script", "deck", "turn", "book", "is_level", "record", "least", "places", "place", "many", "nth", "row", "due"] : List Str).Nodup := by decide +kernel
  refine FF.w_cons ?_ ?_
  refine FF.w_asg ?_ ?_ (by rfl) (by rfl) (by rfl)
  refine FF.w_call (by assumption) (by assumption) (by assumption) (by rfl) (by intro _ _ _ _ _ _; exact FF.ar1 (fun _ => rfl)) ?_ (by decide) (by rfl) (by rfl)
  refine FF.w_acons ?_ ?_ (by rfl)
  exact FF.w_var rfl (by first | exact .inl rfl | exact .inr (.inl rfl) | exact .inr (.inr rfl)) (by decide) (by decide)
  exact FF.w_anil
  exact FF.sg_name (by assumption) rfl (by first | exact .inl rfl | exact .inr rfl) (by first | exact .inl rfl | exact .inr rfl)
  refine FF.w_cons ?_ ?_
  refine FF.w_for rfl PassesOwn.never ?_ ?_ ?_ (by intro _; rfl)
  refine FF.w_range1 (by rfl) (by assumption) ?_ (by rfl)
  exact FF.w_int
  exact FF.sg_name (by assumption) rfl (by first | exact .inl rfl | exact .inr rfl) (by first | exact .inl rfl | exact .inr rfl)
  refine FF.w_cons ?_ ?_
  refine FF.w_asg ?_ ?_ (by rfl) (by rfl) (by rfl)
  refine FF.w_if ?_ ?_ ?_
  refine FF.w_tcmp (by exact FF.un_of ‹Room _ _› (by decide)) ?_ ?_ (by rfl)
  exact FF.w_var rfl (by first | exact .inl rfl | exact .inr (.inl rfl) | exact .inr (.inr rfl)) (by decide) (by decide)
  exact FF.w_int
  refine FF.w_ix (by exact FF.un_of ‹Room _ _› (by decide)) ?_ ?_ (fun _ _ => rfl)
  refine FF.w_call (by assumption) (by assumption) (by assumption) (by rfl) (by intro _ _ _ _ _ _; exact FF.ar2 (fun _ _ => rfl)) ?_ (by decide) (by rfl) (by rfl)
  refine FF.w_acons ?_ ?_ (by rfl)
  exact FF.w_var rfl (by first | exact .inl rfl | exact .inr (.inl rfl) | exact .inr (.inr rfl)) (by decide) (by decide)
  refine FF.w_acons ?_ ?_ (by rfl)
  refine FF.w_bin ?_ ?_
  exact FF.w_int
  refine FF.w_call (by assumption) (by assumption) (by assumption) (by rfl) (by intro _ _ _ _ _ _; exact FF.ar2 (fun _ _ => rfl)) ?_ (by decide) (by rfl) (by rfl)
  refine FF.w_acons ?_ ?_ (by rfl)
  exact FF.w_var rfl (by first | exact .inl rfl | exact .inr (.inl rfl) | exact .inr (.inr rfl)) (by decide) (by decide)
  refine FF.w_acons ?_ ?_ (by rfl)
  exact FF.w_int
  exact FF.w_anil
  exact FF.w_anil
  exact FF.w_int
  refine FF.w_call (by assumption) (by assumption) (by assumption) (by rfl) (by intro _ _ _ _ _ _; exact FF.ar2 (fun _ _ => rfl)) ?_ (by decide) (by rfl) (by rfl)
  refine FF.w_acons ?_ ?_ (by rfl)
  exact FF.w_var rfl (by first | exact .inl rfl | exact .inr (.inl rfl) | exact .inr (.inr rfl)) (by decide) (by decide)
  refine FF.w_acons ?_ ?_ (by rfl)
  exact FF.w_int
  exact FF.w_anil
  exact FF.sg_name (by assumption) rfl (by first | exact .inl rfl | exact .inr rfl) (by first | exact .inl rfl | exact .inr rfl)
  refine FF.w_cons ?_ ?_
  refine FF.w_asg ?_ ?_ (by rfl) (by rfl) (by rfl)
  refine FF.w_cmp (by exact FF.un_of ‹Room _ _› (by decide)) ?_ ?_ (by rfl)
  refine FF.w_call (by assumption) (by assumption) (by assumption) (by rfl) (by intro _ _ _ _ _ _; exact FF.ar1 (fun _ => rfl)) ?_ (by decide) (by rfl) (by rfl)
  refine FF.w_acons ?_ ?_ (by rfl)
  exact FF.w_var rfl (by first | exact .inl rfl | exact .inr (.inl rfl) | exact .inr (.inr rfl)) (by decide) (by decide)
  exact FF.w_anil
  exact FF.w_non
  exact FF.sg_name (by assumption) rfl (by first | exact .inl rfl | exact .inr rfl) (by first | exact .inl rfl | exact .inr rfl)
  refine FF.w_cons ?_ ?_
  refine FF.w_ite ?_ ?_ ?_
  refine FF.w_tcmp (by exact FF.un_of ‹Room _ _› (by decide)) ?_ ?_ (by rfl)
  refine FF.w_cmp (by exact FF.un_of ‹Room _ _› (by decide)) ?_ ?_ (by rfl)
  refine FF.w_call (by assumption) (by assumption) (by assumption) (by rfl) (by intro _ _ _ _ _ _; exact FF.ar1 (fun _ => rfl)) ?_ (by decide) (by rfl) (by rfl)
  refine FF.w_acons ?_ ?_ (by rfl)
  exact FF.w_var rfl (by first | exact .inl rfl | exact .inr (.inl rfl) | exact .inr (.inr rfl)) (by decide) (by decide)
  exact FF.w_anil
  exact FF.w_non
  exact FF.w_var rfl (by first | exact .inl rfl | exact .inr (.inl rfl) | exact .inr (.inr rfl)) (by decide) (by decide)
  refine FF.w_cons ?_ ?_
  refine FF.w_ret ?_
  exact FF.w_bool
  exact FF.w_nil
  exact FF.w_nil
  refine FF.w_cons ?_ ?_
  refine FF.w_asg ?_ ?_ (by rfl) (by rfl) (by rfl)
  refine FF.w_call (by assumption) (by assumption) (by assumption) (by rfl) (by intro _ _ _ _ _ _; exact FF.ar3 (fun _ _ _ => rfl)) ?_ (by decide) (by rfl) (by rfl)
  refine FF.w_acons ?_ ?_ (by rfl)
  exact FF.w_var rfl (by first | exact .inl rfl | exact .inr (.inl rfl) | exact .inr (.inr rfl)) (by decide) (by decide)
  refine FF.w_acons ?_ ?_ (by rfl)
  exact FF.w_var rfl (by first | exact .inl rfl | exact .inr (.inl rfl) | exact .inr (.inr rfl)) (by decide) (by decide)
  refine FF.w_acons ?_ ?_ (by rfl)
  refine FF.w_call (by assumption) (by assumption) (by assumption) (by rfl) (by intro _ _ _ _ _ _; exact FF.ar2 (fun _ _ => rfl)) ?_ (by decide) (by rfl) (by rfl)
  refine FF.w_acons ?_ ?_ (by rfl)
  exact FF.w_var rfl (by first | exact .inl rfl | exact .inr (.inl rfl) | exact .inr (.inr rfl)) (by decide) (by decide)
  refine FF.w_acons ?_ ?_ (by rfl)
  refine FF.w_lst ?_
  refine FF.w_acons ?_ ?_ (by rfl)
  exact FF.w_int
  refine FF.w_acons ?_ ?_ (by rfl)
  exact FF.w_int
  refine FF.w_acons ?_ ?_ (by rfl)
  exact FF.w_int
  refine FF.w_acons ?_ ?_ (by rfl)
  exact FF.w_int
  refine FF.w_acons ?_ ?_ (by rfl)
  exact FF.w_int
  refine FF.w_acons ?_ ?_ (by rfl)
  exact FF.w_int
  exact FF.w_anil
  exact FF.w_anil
  exact FF.w_anil
  exact FF.sg_name (by assumption) rfl (by first | exact .inl rfl | exact .inr rfl) (by first | exact .inl rfl | exact .inr rfl)
  refine FF.w_cons ?_ ?_
  refine FF.w_asg ?_ ?_ (by rfl) (by rfl) (by rfl)
  refine FF.w_call (by assumption) (by assumption) (by assumption) (by rfl) (by intro _ _ _ _ _ _; exact FF.ar2 (fun _ _ => rfl)) ?_ (by decide) (by rfl) (by rfl)
  refine FF.w_acons ?_ ?_ (by rfl)
  exact FF.w_var rfl (by first | exact .inl rfl | exact .inr (.inl rfl) | exact .inr (.inr rfl)) (by decide) (by decide)
  refine FF.w_acons ?_ ?_ (by rfl)
  exact FF.w_var rfl (by first | exact .inl rfl | exact .inr (.inl rfl) | exact .inr (.inr rfl)) (by decide) (by decide)
  exact FF.w_anil
  exact FF.sg_name (by assumption) rfl (by first | exact .inl rfl | exact .inr rfl) (by first | exact .inl rfl | exact .inr rfl)
  refine FF.w_cons ?_ ?_
  refine FF.w_ite ?_ ?_ ?_
  refine FF.w_tbool ?_
  refine FF.w_twand ?_ ?_
  refine FF.w_tplain ?_ (fun _ => rfl)
  exact FF.w_var rfl (by first | exact .inl rfl | exact .inr (.inl rfl) | exact .inr (.inr rfl)) (by decide) (by decide)
  refine FF.w_tone_and ?_
  refine FF.w_tcmp (by exact FF.un_of ‹Room _ _› (by decide)) ?_ ?_ (by rfl)
  refine FF.w_cb (FF.cb_repr (by assumption) (by exact FF.un_of ‹Room _ _› (by decide))) (by rfl) (by assumption) PyProof.Rows.boot_repr ?_ (by decide) (by decide) (by rfl) (by rfl)
  refine FF.w_acons ?_ ?_ (by rfl)
  refine FF.w_call (by assumption) (by assumption) (by assumption) (by rfl) (by intro _ _ _ _ _ _; exact FF.ar2 (fun _ _ => rfl)) ?_ (by decide) (by rfl) (by rfl)
  refine FF.w_acons ?_ ?_ (by rfl)
  exact FF.w_var rfl (by first | exact .inl rfl | exact .inr (.inl rfl) | exact .inr (.inr rfl)) (by decide) (by decide)
  refine FF.w_acons ?_ ?_ (by rfl)
  exact FF.w_var rfl (by first | exact .inl rfl | exact .inr (.inl rfl) | exact .inr (.inr rfl)) (by decide) (by decide)
  exact FF.w_anil
  exact FF.w_anil
  refine FF.w_cb (FF.cb_repr (by assumption) (by exact FF.un_of ‹Room _ _› (by decide))) (by rfl) (by assumption) PyProof.Rows.boot_repr ?_ (by decide) (by decide) (by rfl) (by rfl)
  refine FF.w_acons ?_ ?_ (by rfl)
  exact FF.w_var rfl (by first | exact .inl rfl | exact .inr (.inl rfl) | exact .inr (.inr rfl)) (by decide) (by decide)
  exact FF.w_anil
  refine FF.w_cons ?_ ?_
  refine FF.w_ret ?_
  exact FF.w_bool
  exact FF.w_nil
  exact FF.w_nil
  refine FF.w_cons ?_ ?_
  refine FF.w_asg ?_ ?_ (by rfl) (by rfl) (by rfl)
  refine FF.w_lst ?_
  exact FF.w_anil
  exact FF.sg_name (by assumption) rfl (by first | exact .inl rfl | exact .inr rfl) (by first | exact .inl rfl | exact .inr rfl)
  refine FF.w_cons ?_ ?_
  refine FF.w_for rfl PassesOwn.never ?_ ?_ ?_ (by intro _; rfl)
  refine FF.w_enum (by rfl) (by assumption) ?_ (by rfl)
  exact FF.w_var rfl (by first | exact .inl rfl | exact .inr (.inl rfl) | exact .inr (.inr rfl)) (by decide) (by decide)
  refine FF.sg_tup rfl ?_ (by rfl) (by rfl)
  refine FF.sgs_cons ?_ ?_ (by rfl)
  exact FF.sg_name (by assumption) rfl (by first | exact .inl rfl | exact .inr rfl) (by first | exact .inl rfl | exact .inr rfl)
  refine FF.sgs_cons ?_ ?_ (by rfl)
  exact FF.sg_name (by assumption) rfl (by first | exact .inl rfl | exact .inr rfl) (by first | exact .inl rfl | exact .inr rfl)
  exact FF.sgs_nil
  refine FF.w_cons ?_ ?_
  refine FF.w_asg ?_ ?_ (by rfl) (by rfl) (by rfl)
  refine FF.w_bin ?_ ?_
  exact FF.w_var rfl (by first | exact .inl rfl | exact .inr (.inl rfl) | exact .inr (.inr rfl)) (by decide) (by decide)
  refine FF.w_bin ?_ ?_
  refine FF.w_lst ?_
  refine FF.w_acons ?_ ?_ (by rfl)
  exact FF.w_var rfl (by first | exact .inl rfl | exact .inr (.inl rfl) | exact .inr (.inr rfl)) (by decide) (by decide)
  exact FF.w_anil
  exact FF.w_var rfl (by first | exact .inl rfl | exact .inr (.inl rfl) | exact .inr (.inr rfl)) (by decide) (by decide)
  exact FF.sg_name (by assumption) rfl (by first | exact .inl rfl | exact .inr rfl) (by first | exact .inl rfl | exact .inr rfl)
  exact FF.w_nil
  refine FF.w_cons ?_ ?_
  refine FF.w_for rfl PassesOwn.never ?_ ?_ ?_ (by intro _; rfl)
  refine FF.w_range1 (by rfl) (by assumption) ?_ (by rfl)
  exact FF.w_int
  exact FF.sg_name (by assumption) rfl (by first | exact .inl rfl | exact .inr rfl) (by first | exact .inl rfl | exact .inr rfl)
  refine FF.w_cons ?_ ?_
  refine FF.w_asg ?_ ?_ (by rfl) (by rfl) (by rfl)
  refine FF.w_ct FF.cb_tuple (by rfl) (by assumption) PyProof.Rows.boot_tuple ?_ (by decide) (by decide) (by rfl) (by rfl)
  refine FF.w_acons ?_ ?_ (by rfl)
  refine FF.w_call (by assumption) (by assumption) (by assumption) (by rfl) (by intro _ _ _ _ _ _; exact FF.ar2 (fun _ _ => rfl)) ?_ (by decide) (by rfl) (by rfl)
  refine FF.w_acons ?_ ?_ (by rfl)
  exact FF.w_var rfl (by first | exact .inl rfl | exact .inr (.inl rfl) | exact .inr (.inr rfl)) (by decide) (by decide)
  refine FF.w_acons ?_ ?_ (by rfl)
  exact FF.w_var rfl (by first | exact .inl rfl | exact .inr (.inl rfl) | exact .inr (.inr rfl)) (by decide) (by decide)
  exact FF.w_anil
  exact FF.w_anil
  exact FF.sg_name (by assumption) rfl (by first | exact .inl rfl | exact .inr rfl) (by first | exact .inl rfl | exact .inr rfl)
  refine FF.w_cons ?_ ?_
  refine FF.w_asg ?_ ?_ (by rfl) (by rfl) (by rfl)
  refine FF.w_call (by assumption) (by assumption) (by assumption) (by rfl) (by intro _ _ _ _ _ _; exact FF.ar2 (fun _ _ => rfl)) ?_ (by decide) (by rfl) (by rfl)
  refine FF.w_acons ?_ ?_ (by rfl)
  exact FF.w_var rfl (by first | exact .inl rfl | exact .inr (.inl rfl) | exact .inr (.inr rfl)) (by decide) (by decide)
  refine FF.w_acons ?_ ?_ (by rfl)
  exact FF.w_var rfl (by first | exact .inl rfl | exact .inr (.inl rfl) | exact .inr (.inr rfl)) (by decide) (by decide)
  exact FF.w_anil
  exact FF.sg_name (by assumption) rfl (by first | exact .inl rfl | exact .inr rfl) (by first | exact .inl rfl | exact .inr rfl)
  refine FF.w_cons ?_ ?_
  refine FF.w_ite ?_ ?_ ?_
  refine FF.w_tbool ?_
  refine FF.w_twor ?_ ?_
  refine FF.w_tcmp (by exact FF.un_of ‹Room _ _› (by decide)) ?_ ?_ (by rfl)
  refine FF.w_cb (FF.cb_repr (by assumption) (by exact FF.un_of ‹Room _ _› (by decide))) (by rfl) (by assumption) PyProof.Rows.boot_repr ?_ (by decide) (by decide) (by rfl) (by rfl)
  refine FF.w_acons ?_ ?_ (by rfl)
  refine FF.w_call (by assumption) (by assumption) (by assumption) (by rfl) (by intro _ _ _ _ _ _; exact FF.ar2 (fun _ _ => rfl)) ?_ (by decide) (by rfl) (by rfl)
  refine FF.w_acons ?_ ?_ (by rfl)
  exact FF.w_var rfl (by first | exact .inl rfl | exact .inr (.inl rfl) | exact .inr (.inr rfl)) (by decide) (by decide)
  refine FF.w_acons ?_ ?_ (by rfl)
  exact FF.w_var rfl (by first | exact .inl rfl | exact .inr (.inl rfl) | exact .inr (.inr rfl)) (by decide) (by decide)
  exact FF.w_anil
  exact FF.w_anil
  refine FF.w_cb (FF.cb_repr (by assumption) (by exact FF.un_of ‹Room _ _› (by decide))) (by rfl) (by assumption) PyProof.Rows.boot_repr ?_ (by decide) (by decide) (by rfl) (by rfl)
  refine FF.w_acons ?_ ?_ (by rfl)
  exact FF.w_var rfl (by first | exact .inl rfl | exact .inr (.inl rfl) | exact .inr (.inr rfl)) (by decide) (by decide)
  exact FF.w_anil
  refine FF.w_tone_or ?_
  refine FF.w_tcmp (by exact FF.un_of ‹Room _ _› (by decide)) ?_ ?_ (by rfl)
  exact FF.w_var rfl (by first | exact .inl rfl | exact .inr (.inl rfl) | exact .inr (.inr rfl)) (by decide) (by decide)
  exact FF.w_var rfl (by first | exact .inl rfl | exact .inr (.inl rfl) | exact .inr (.inr rfl)) (by decide) (by decide)
  refine FF.w_cons ?_ ?_
  refine FF.w_ret ?_
  exact FF.w_bool
  exact FF.w_nil
  exact FF.w_nil
  refine FF.w_cons ?_ ?_
  refine FF.w_ite ?_ ?_ ?_
  refine FF.w_tbool ?_
  refine FF.w_twand ?_ ?_
  refine FF.w_tplain ?_ (fun _ => rfl)
  exact FF.w_var rfl (by first | exact .inl rfl | exact .inr (.inl rfl) | exact .inr (.inr rfl)) (by decide) (by decide)
  refine FF.w_tone_and ?_
  refine FF.w_tcmp (by exact FF.un_of ‹Room _ _› (by decide)) ?_ ?_ (by rfl)
  refine FF.w_call (by assumption) (by assumption) (by assumption) (by rfl) (by intro _ _ _ _ _ _; exact FF.ar2 (fun _ _ => rfl)) ?_ (by decide) (by rfl) (by rfl)
  refine FF.w_acons ?_ ?_ (by rfl)
  exact FF.w_var rfl (by first | exact .inl rfl | exact .inr (.inl rfl) | exact .inr (.inr rfl)) (by decide) (by decide)
  refine FF.w_acons ?_ ?_ (by rfl)
  exact FF.w_var rfl (by first | exact .inl rfl | exact .inr (.inl rfl) | exact .inr (.inr rfl)) (by decide) (by decide)
  exact FF.w_anil
  exact FF.w_var rfl (by first | exact .inl rfl | exact .inr (.inl rfl) | exact .inr (.inr rfl)) (by decide) (by decide)
  refine FF.w_cons ?_ ?_
  refine FF.w_ret ?_
  exact FF.w_bool
  exact FF.w_nil
  exact FF.w_nil
  exact FF.w_nil
  exact FF.w_nil
  refine FF.w_cons ?_ ?_
  refine FF.w_ret ?_
  exact FF.w_bool
  exact FF.w_nil
structure All (P : Program) (w : World) (K : PySem.W.Frag) (mg : Str → Option Value) (base : Heap) (k : Nat) : Prop where
  c_q_law_deck : Cal P w K mg base k (run tbl k 206) s_q_law_deck "_law_deck" ["script"]
  c_q_law_draw : Cal P w K mg base k (run tbl k 53) s_q_law_draw "_law_draw" ["deck", "many"]
  c_q_law_record : Cal P w K mg base k (run tbl k 207) s_q_law_record "_law_record" ["deck", "book", "many"]
  c_q_law_up : Cal P w K mg base k (run tbl k 61) s_q_law_up "_law_up" ["number", "step"]
  c_q_law_wide : Cal P w K mg base k (run tbl k 208) s_q_law_wide "_law_wide" ["book", "places"]
  c_q_law_least : Cal P w K mg base k (run tbl k 209) s_q_law_least "_law_least" ["book", "record"]
  c_q_law_pick : Cal P w K mg base k (run tbl k 54) s_q_law_pick "_law_pick" ["deck", "items"]
  c_q_law_kind : Cal P w K mg base k (run tbl k 55) s_q_law_kind "_law_kind" ["deck", "unit", "lack", "alignment", "is_great"]
  c_q_law_level : Cal P w K mg base k (run tbl k 56) s_q_law_level "_law_level" ["deck", "kinds"]
  c_q_law_mixed : Cal P w K mg base k (run tbl k 57) s_q_law_mixed "_law_mixed" ["deck", "items"]
  c_q_law_just : Cal P w K mg base k (run tbl k 58) s_q_law_just "_law_just" ["deck", "kinds"]
  c_q_law_room : Cal P w K mg base k (run tbl k 62) s_q_law_room "_law_room" ["kind"]
  c_q_law_lack : Cal P w K mg base k (run tbl k 63) s_q_law_lack "_law_lack" ["kind"]
  c_q_law_power : Cal P w K mg base k (run tbl k 64) s_q_law_power "_law_power" ["number"]
  c_q_law_pair : Cal P w K mg base k (run tbl k 65) s_q_law_pair "_law_pair" ["book"]
  c_q_law_row_whole : Cal P w K mg base k (run tbl k 210) s_q_law_row_whole "_law_row_whole" ["book", "row"]
  c_power : Cal P w K mg base k (run tbl k 40) s_power "power" ["number"]
  c_raised : Cal P w K mg base k (run tbl k 9) s_raised "raised" ["number", "step"]
  c_room : Cal P w K mg base k (run tbl k 37) s_room "room" ["kind"]
  c_lacks : Cal P w K mg base k (run tbl k 39) s_lacks "lacks" ["book"]
  c_rooms : Cal P w K mg base k (run tbl k 38) s_rooms "rooms" ["book"]
  c_level_error : Cal P w K mg base k (run tbl k 60) s_level_error "level_error" ["book"]
  c_greatest_alignment : Cal P w K mg base k (run tbl k 11) s_greatest_alignment "greatest_alignment" ["book", "places"]
  c_places_of : Cal P w K mg base k (run tbl k 42) s_places_of "places_of" ["record"]
  c_rooms_whole : Cal P w K mg base k (run tbl k 48) s_rooms_whole "rooms_whole" ["book", "record"]
  c_laid : Cal P w K mg base k (run tbl k 10) s_laid "laid" ["book", "row"]
  c_row_whole : Cal P w K mg base k (run tbl k 12) s_row_whole "row_whole" ["book", "row"]
  c_law : Cal P w K mg base k (run tbl k 211) s_law "law" ["script"]
theorem all_ok
    (D_q_law_deck : DefIn K mg s_q_law_deck "_law_deck")
    (D_q_law_draw : DefIn K mg s_q_law_draw "_law_draw")
    (D_q_law_record : DefIn K mg s_q_law_record "_law_record")
    (D_q_law_up : DefIn K mg s_q_law_up "_law_up")
    (D_q_law_wide : DefIn K mg s_q_law_wide "_law_wide")
    (D_q_law_least : DefIn K mg s_q_law_least "_law_least")
    (D_q_law_pick : DefIn K mg s_q_law_pick "_law_pick")
    (D_q_law_kind : DefIn K mg s_q_law_kind "_law_kind")
    (D_q_law_level : DefIn K mg s_q_law_level "_law_level")
    (D_q_law_mixed : DefIn K mg s_q_law_mixed "_law_mixed")
    (D_q_law_just : DefIn K mg s_q_law_just "_law_just")
    (D_q_law_room : DefIn K mg s_q_law_room "_law_room")
    (D_q_law_lack : DefIn K mg s_q_law_lack "_law_lack")
    (D_q_law_power : DefIn K mg s_q_law_power "_law_power")
    (D_q_law_pair : DefIn K mg s_q_law_pair "_law_pair")
    (D_q_law_row_whole : DefIn K mg s_q_law_row_whole "_law_row_whole")
    (D_power : DefIn K mg s_power "power")
    (D_raised : DefIn K mg s_raised "raised")
    (D_room : DefIn K mg s_room "room")
    (D_lacks : DefIn K mg s_lacks "lacks")
    (D_rooms : DefIn K mg s_rooms "rooms")
    (D_level_error : DefIn K mg s_level_error "level_error")
    (D_greatest_alignment : DefIn K mg s_greatest_alignment "greatest_alignment")
    (D_places_of : DefIn K mg s_places_of "places_of")
    (D_rooms_whole : DefIn K mg s_rooms_whole "rooms_whole")
    (D_laid : DefIn K mg s_laid "laid")
    (D_row_whole : DefIn K mg s_row_whole "row_whole")
    (D_law : DefIn K mg s_law "law")
    (m_enumerate : mg "enumerate" = none)
    (m_int : mg "int" = none)
    (m_len : mg "len" = none)
    (m_list : mg "list" = none)
    (m_max : mg "max" = none)
    (m_min : mg "min" = none)
    (m_range : mg "range" = none)
    (m_repr : mg "repr" = none)
    (m_sum : mg "sum" = none)
    (m_tuple : mg "tuple" = none)
    (m_zip : mg "zip" = none)
    : ∀ k, All P w K mg base k
  | 0 => ⟨cal_zero D_q_law_deck, cal_zero D_q_law_draw, cal_zero D_q_law_record, cal_zero D_q_law_up, cal_zero D_q_law_wide, cal_zero D_q_law_least, cal_zero D_q_law_pick, cal_zero D_q_law_kind, cal_zero D_q_law_level, cal_zero D_q_law_mixed, cal_zero D_q_law_just, cal_zero D_q_law_room, cal_zero D_q_law_lack, cal_zero D_q_law_power, cal_zero D_q_law_pair, cal_zero D_q_law_row_whole, cal_zero D_power, cal_zero D_raised, cal_zero D_room, cal_zero D_lacks, cal_zero D_rooms, cal_zero D_level_error, cal_zero D_greatest_alignment, cal_zero D_places_of, cal_zero D_rooms_whole, cal_zero D_laid, cal_zero D_row_whole, cal_zero D_law⟩
  | k + 1 => by
    have I := all_ok D_q_law_deck D_q_law_draw D_q_law_record D_q_law_up D_q_law_wide D_q_law_least D_q_law_pick D_q_law_kind D_q_law_level D_q_law_mixed D_q_law_just D_q_law_room D_q_law_lack D_q_law_power D_q_law_pair D_q_law_row_whole D_power D_raised D_room D_lacks D_rooms D_level_error D_greatest_alignment D_places_of D_rooms_whole D_laid D_row_whole D_law m_enumerate m_int m_len m_list m_max m_min m_range m_repr m_sum m_tuple m_zip   k
    exact ⟨
      (cal_succ D_q_law_deck S_q_law_deck rfl rfl (b_q_law_deck  m_len m_int  ) : Cal P w K mg base (k + 1) (runDef (run tbl k) d_q_law_deck) _ _ _),
      (cal_succ D_q_law_draw S_q_law_draw rfl rfl (b_q_law_draw  m_int  ) : Cal P w K mg base (k + 1) (runDef (run tbl k) d_q_law_draw) _ _ _),
      (cal_succ D_q_law_record S_q_law_record rfl rfl (b_q_law_record I.c_q_law_draw m_range m_tuple m_len  ) : Cal P w K mg base (k + 1) (runDef (run tbl k) d_q_law_record) _ _ _),
      (cal_succ D_q_law_up S_q_law_up rfl rfl (b_q_law_up    ) : Cal P w K mg base (k + 1) (runDef (run tbl k) d_q_law_up) _ _ _),
      (cal_succ D_q_law_wide S_q_law_wide rfl rfl (b_q_law_wide  m_max  ) : Cal P w K mg base (k + 1) (runDef (run tbl k) d_q_law_wide) _ _ _),
      (cal_succ D_q_law_least S_q_law_least rfl rfl (b_q_law_least I.c_q_law_up I.c_q_law_wide m_range m_min m_sum m_list m_len m_enumerate  ) : Cal P w K mg base (k + 1) (runDef (run tbl k) d_q_law_least) _ _ _),
      (cal_succ D_q_law_pick S_q_law_pick rfl rfl (b_q_law_pick I.c_q_law_draw m_len  ) : Cal P w K mg base (k + 1) (runDef (run tbl k) d_q_law_pick) _ _ _),
      (cal_succ D_q_law_kind S_q_law_kind rfl rfl (b_q_law_kind I.c_q_law_draw m_max  ) : Cal P w K mg base (k + 1) (runDef (run tbl k) d_q_law_kind) _ _ _),
      (cal_succ D_q_law_level S_q_law_level rfl rfl (b_q_law_level I.c_q_law_draw I.c_q_law_pick I.c_q_law_kind m_range m_tuple m_min  ) : Cal P w K mg base (k + 1) (runDef (run tbl k) d_q_law_level) _ _ _),
      (cal_succ D_q_law_mixed S_q_law_mixed rfl rfl (b_q_law_mixed I.c_q_law_draw m_list m_len  ) : Cal P w K mg base (k + 1) (runDef (run tbl k) d_q_law_mixed) _ _ _),
      (cal_succ D_q_law_just S_q_law_just rfl rfl (b_q_law_just I.c_q_law_level I.c_q_law_pick I.c_q_law_draw I.c_q_law_kind I.c_q_law_mixed m_min m_tuple m_list  ) : Cal P w K mg base (k + 1) (runDef (run tbl k) d_q_law_just) _ _ _),
      (cal_succ D_q_law_room S_q_law_room rfl rfl (b_q_law_room I.c_q_law_up   ) : Cal P w K mg base (k + 1) (runDef (run tbl k) d_q_law_room) _ _ _),
      (cal_succ D_q_law_lack S_q_law_lack rfl rfl (b_q_law_lack I.c_q_law_room   ) : Cal P w K mg base (k + 1) (runDef (run tbl k) d_q_law_lack) _ _ _),
      (cal_succ D_q_law_power S_q_law_power rfl rfl (b_q_law_power    ) : Cal P w K mg base (k + 1) (runDef (run tbl k) d_q_law_power) _ _ _),
      (cal_succ D_q_law_pair S_q_law_pair rfl rfl (b_q_law_pair I.c_q_law_lack I.c_q_law_power I.c_q_law_room m_enumerate  ) : Cal P w K mg base (k + 1) (runDef (run tbl k) d_q_law_pair) _ _ _),
      (cal_succ D_q_law_row_whole S_q_law_row_whole rfl rfl (b_q_law_row_whole I.c_q_law_up I.c_q_law_wide   ) : Cal P w K mg base (k + 1) (runDef (run tbl k) d_q_law_row_whole) _ _ _),
      (cal_succ D_power S_power rfl rfl (b_power    ) : Cal P w K mg base (k + 1) (runDef (run tbl k) d_power) _ _ _),
      (cal_succ D_raised S_raised rfl rfl (b_raised    ) : Cal P w K mg base (k + 1) (runDef (run tbl k) d_raised) _ _ _),
      (cal_succ D_room S_room rfl rfl (b_room I.c_raised   ) : Cal P w K mg base (k + 1) (runDef (run tbl k) d_room) _ _ _),
      (cal_succ D_lacks S_lacks rfl rfl (b_lacks I.c_room m_tuple  ) : Cal P w K mg base (k + 1) (runDef (run tbl k) d_lacks) _ _ _),
      (cal_succ D_rooms S_rooms rfl rfl (b_rooms I.c_room m_tuple  ) : Cal P w K mg base (k + 1) (runDef (run tbl k) d_rooms) _ _ _),
      (cal_succ D_level_error S_level_error rfl rfl (b_level_error I.c_rooms I.c_power I.c_lacks m_enumerate  ) : Cal P w K mg base (k + 1) (runDef (run tbl k) d_level_error) _ _ _),
      (cal_succ D_greatest_alignment S_greatest_alignment rfl rfl (b_greatest_alignment  m_max  ) : Cal P w K mg base (k + 1) (runDef (run tbl k) d_greatest_alignment) _ _ _),
      (cal_succ D_places_of S_places_of rfl rfl (b_places_of  m_enumerate  ) : Cal P w K mg base (k + 1) (runDef (run tbl k) d_places_of) _ _ _),
      (cal_succ D_rooms_whole S_rooms_whole rfl rfl (b_rooms_whole I.c_rooms I.c_raised I.c_greatest_alignment I.c_places_of m_sum m_zip  ) : Cal P w K mg base (k + 1) (runDef (run tbl k) d_rooms_whole) _ _ _),
      (cal_succ D_laid S_laid rfl rfl (b_laid I.c_raised m_tuple  ) : Cal P w K mg base (k + 1) (runDef (run tbl k) d_laid) _ _ _),
      (cal_succ D_row_whole S_row_whole rfl rfl (b_row_whole I.c_raised I.c_laid I.c_greatest_alignment   ) : Cal P w K mg base (k + 1) (runDef (run tbl k) d_row_whole) _ _ _),
      (cal_succ D_law S_law rfl rfl (b_law I.c_q_law_deck I.c_q_law_level I.c_q_law_draw I.c_q_law_just I.c_q_law_pair I.c_level_error I.c_q_law_record I.c_q_law_pick I.c_q_law_least I.c_rooms_whole I.c_q_law_mixed I.c_q_law_row_whole I.c_row_whole m_range m_enumerate m_tuple m_repr  ) : Cal P w K mg base (k + 1) (runDef (run tbl k) d_law) _ _ _)⟩
theorem head_mk {l : PySem.W.OpenLaw} {h : Heap} {fa f0 f1 f2 f3 f4 f5 f6 f7 f8 f9 f10 f11 f12 f13 f14 f15 f16 f17 f18 f19 f20 f21 f22 f23 f24 f25 f26 f27 : Addr} (X : K.In h) (G : h.Ns mainGlobals mg) (hfa : mg "law" = some (.ref fa))
    {od0 an0 od1 an1 od2 an2 od3 an3 od4 an4 od5 an5 od6 an6 od7 an7 od8 an8 od9 an9 od10 an10 od11 an11 od12 an12 od13 an13 od14 an14 od15 an15 od16 an16 od17 an17 od18 an18 od19 an19 od20 an20 od21 an21 od22 an22 od23 an23 od24 an24 od25 an25 od26 an26 od27 an27 : Option Addr} {sl0 sl1 sl2 sl3 sl4 sl5 sl6 sl7 sl8 sl9 sl10 sl11 sl12 sl13 sl14 sl15 sl16 sl17 sl18 sl19 sl20 sl21 sl22 sl23 sl24 sl25 sl26 sl27 : Array (Option Value)} {oc0 kV0 dc0 pm0 cd0 ct0 oc1 kV1 dc1 pm1 cd1 ct1 oc2 kV2 dc2 pm2 cd2 ct2 oc3 kV3 dc3 pm3 cd3 ct3 oc4 kV4 dc4 pm4 cd4 ct4 oc5 kV5 dc5 pm5 cd5 ct5 oc6 kV6 dc6 pm6 cd6 ct6 oc7 kV7 dc7 pm7 cd7 ct7 oc8 kV8 dc8 pm8 cd8 ct8 oc9 kV9 dc9 pm9 cd9 ct9 oc10 kV10 dc10 pm10 cd10 ct10 oc11 kV11 dc11 pm11 cd11 ct11 oc12 kV12 dc12 pm12 cd12 ct12 oc13 kV13 dc13 pm13 cd13 ct13 oc14 kV14 dc14 pm14 cd14 ct14 oc15 kV15 dc15 pm15 cd15 ct15 oc16 kV16 dc16 pm16 cd16 ct16 oc17 kV17 dc17 pm17 cd17 ct17 oc18 kV18 dc18 pm18 cd18 ct18 oc19 kV19 dc19 pm19 cd19 ct19 oc20 kV20 dc20 pm20 cd20 ct20 oc21 kV21 dc21 pm21 cd21 ct21 oc22 kV22 dc22 pm22 cd22 ct22 oc23 kV23 dc23 pm23 cd23 ct23 oc24 kV24 dc24 pm24 cd24 ct24 oc25 kV25 dc25 pm25 cd25 ct25 oc26 kV26 dc26 pm26 cd26 ct26 oc27 kV27 dc27 pm27 cd27 ct27 : Value}
    (a0 : PySem.W.nsIn K mainGlobals "_law_deck" = some (some (.ref f0))) (l0 : K.lookup f0 = some ⟨oc0, od0, .func (PySem.W.fnOf "_law_deck" "_law_deck" (defArgs s_q_law_deck) (defBody s_q_law_deck) (defScope s_q_law_deck) .none kV0 dc0 pm0 an0 cd0 ct0), sl0⟩) (c0 : PySem.W.codeIn K cd0 "_law_deck" = true) (k0 : PySem.W.keepIn K (.ref f0) = true)
    (a1 : PySem.W.nsIn K mainGlobals "_law_draw" = some (some (.ref f1))) (l1 : K.lookup f1 = some ⟨oc1, od1, .func (PySem.W.fnOf "_law_draw" "_law_draw" (defArgs s_q_law_draw) (defBody s_q_law_draw) (defScope s_q_law_draw) .none kV1 dc1 pm1 an1 cd1 ct1), sl1⟩) (c1 : PySem.W.codeIn K cd1 "_law_draw" = true) (k1 : PySem.W.keepIn K (.ref f1) = true)
    (a2 : PySem.W.nsIn K mainGlobals "_law_record" = some (some (.ref f2))) (l2 : K.lookup f2 = some ⟨oc2, od2, .func (PySem.W.fnOf "_law_record" "_law_record" (defArgs s_q_law_record) (defBody s_q_law_record) (defScope s_q_law_record) .none kV2 dc2 pm2 an2 cd2 ct2), sl2⟩) (c2 : PySem.W.codeIn K cd2 "_law_record" = true) (k2 : PySem.W.keepIn K (.ref f2) = true)
    (a3 : PySem.W.nsIn K mainGlobals "_law_up" = some (some (.ref f3))) (l3 : K.lookup f3 = some ⟨oc3, od3, .func (PySem.W.fnOf "_law_up" "_law_up" (defArgs s_q_law_up) (defBody s_q_law_up) (defScope s_q_law_up) .none kV3 dc3 pm3 an3 cd3 ct3), sl3⟩) (c3 : PySem.W.codeIn K cd3 "_law_up" = true) (k3 : PySem.W.keepIn K (.ref f3) = true)
    (a4 : PySem.W.nsIn K mainGlobals "_law_wide" = some (some (.ref f4))) (l4 : K.lookup f4 = some ⟨oc4, od4, .func (PySem.W.fnOf "_law_wide" "_law_wide" (defArgs s_q_law_wide) (defBody s_q_law_wide) (defScope s_q_law_wide) .none kV4 dc4 pm4 an4 cd4 ct4), sl4⟩) (c4 : PySem.W.codeIn K cd4 "_law_wide" = true) (k4 : PySem.W.keepIn K (.ref f4) = true)
    (a5 : PySem.W.nsIn K mainGlobals "_law_least" = some (some (.ref f5))) (l5 : K.lookup f5 = some ⟨oc5, od5, .func (PySem.W.fnOf "_law_least" "_law_least" (defArgs s_q_law_least) (defBody s_q_law_least) (defScope s_q_law_least) .none kV5 dc5 pm5 an5 cd5 ct5), sl5⟩) (c5 : PySem.W.codeIn K cd5 "_law_least" = true) (k5 : PySem.W.keepIn K (.ref f5) = true)
    (a6 : PySem.W.nsIn K mainGlobals "_law_pick" = some (some (.ref f6))) (l6 : K.lookup f6 = some ⟨oc6, od6, .func (PySem.W.fnOf "_law_pick" "_law_pick" (defArgs s_q_law_pick) (defBody s_q_law_pick) (defScope s_q_law_pick) .none kV6 dc6 pm6 an6 cd6 ct6), sl6⟩) (c6 : PySem.W.codeIn K cd6 "_law_pick" = true) (k6 : PySem.W.keepIn K (.ref f6) = true)
    (a7 : PySem.W.nsIn K mainGlobals "_law_kind" = some (some (.ref f7))) (l7 : K.lookup f7 = some ⟨oc7, od7, .func (PySem.W.fnOf "_law_kind" "_law_kind" (defArgs s_q_law_kind) (defBody s_q_law_kind) (defScope s_q_law_kind) .none kV7 dc7 pm7 an7 cd7 ct7), sl7⟩) (c7 : PySem.W.codeIn K cd7 "_law_kind" = true) (k7 : PySem.W.keepIn K (.ref f7) = true)
    (a8 : PySem.W.nsIn K mainGlobals "_law_level" = some (some (.ref f8))) (l8 : K.lookup f8 = some ⟨oc8, od8, .func (PySem.W.fnOf "_law_level" "_law_level" (defArgs s_q_law_level) (defBody s_q_law_level) (defScope s_q_law_level) .none kV8 dc8 pm8 an8 cd8 ct8), sl8⟩) (c8 : PySem.W.codeIn K cd8 "_law_level" = true) (k8 : PySem.W.keepIn K (.ref f8) = true)
    (a9 : PySem.W.nsIn K mainGlobals "_law_mixed" = some (some (.ref f9))) (l9 : K.lookup f9 = some ⟨oc9, od9, .func (PySem.W.fnOf "_law_mixed" "_law_mixed" (defArgs s_q_law_mixed) (defBody s_q_law_mixed) (defScope s_q_law_mixed) .none kV9 dc9 pm9 an9 cd9 ct9), sl9⟩) (c9 : PySem.W.codeIn K cd9 "_law_mixed" = true) (k9 : PySem.W.keepIn K (.ref f9) = true)
    (a10 : PySem.W.nsIn K mainGlobals "_law_just" = some (some (.ref f10))) (l10 : K.lookup f10 = some ⟨oc10, od10, .func (PySem.W.fnOf "_law_just" "_law_just" (defArgs s_q_law_just) (defBody s_q_law_just) (defScope s_q_law_just) .none kV10 dc10 pm10 an10 cd10 ct10), sl10⟩) (c10 : PySem.W.codeIn K cd10 "_law_just" = true) (k10 : PySem.W.keepIn K (.ref f10) = true)
    (a11 : PySem.W.nsIn K mainGlobals "_law_room" = some (some (.ref f11))) (l11 : K.lookup f11 = some ⟨oc11, od11, .func (PySem.W.fnOf "_law_room" "_law_room" (defArgs s_q_law_room) (defBody s_q_law_room) (defScope s_q_law_room) .none kV11 dc11 pm11 an11 cd11 ct11), sl11⟩) (c11 : PySem.W.codeIn K cd11 "_law_room" = true) (k11 : PySem.W.keepIn K (.ref f11) = true)
    (a12 : PySem.W.nsIn K mainGlobals "_law_lack" = some (some (.ref f12))) (l12 : K.lookup f12 = some ⟨oc12, od12, .func (PySem.W.fnOf "_law_lack" "_law_lack" (defArgs s_q_law_lack) (defBody s_q_law_lack) (defScope s_q_law_lack) .none kV12 dc12 pm12 an12 cd12 ct12), sl12⟩) (c12 : PySem.W.codeIn K cd12 "_law_lack" = true) (k12 : PySem.W.keepIn K (.ref f12) = true)
    (a13 : PySem.W.nsIn K mainGlobals "_law_power" = some (some (.ref f13))) (l13 : K.lookup f13 = some ⟨oc13, od13, .func (PySem.W.fnOf "_law_power" "_law_power" (defArgs s_q_law_power) (defBody s_q_law_power) (defScope s_q_law_power) .none kV13 dc13 pm13 an13 cd13 ct13), sl13⟩) (c13 : PySem.W.codeIn K cd13 "_law_power" = true) (k13 : PySem.W.keepIn K (.ref f13) = true)
    (a14 : PySem.W.nsIn K mainGlobals "_law_pair" = some (some (.ref f14))) (l14 : K.lookup f14 = some ⟨oc14, od14, .func (PySem.W.fnOf "_law_pair" "_law_pair" (defArgs s_q_law_pair) (defBody s_q_law_pair) (defScope s_q_law_pair) .none kV14 dc14 pm14 an14 cd14 ct14), sl14⟩) (c14 : PySem.W.codeIn K cd14 "_law_pair" = true) (k14 : PySem.W.keepIn K (.ref f14) = true)
    (a15 : PySem.W.nsIn K mainGlobals "_law_row_whole" = some (some (.ref f15))) (l15 : K.lookup f15 = some ⟨oc15, od15, .func (PySem.W.fnOf "_law_row_whole" "_law_row_whole" (defArgs s_q_law_row_whole) (defBody s_q_law_row_whole) (defScope s_q_law_row_whole) .none kV15 dc15 pm15 an15 cd15 ct15), sl15⟩) (c15 : PySem.W.codeIn K cd15 "_law_row_whole" = true) (k15 : PySem.W.keepIn K (.ref f15) = true)
    (a16 : PySem.W.nsIn K mainGlobals "power" = some (some (.ref f16))) (l16 : K.lookup f16 = some ⟨oc16, od16, .func (PySem.W.fnOf "power" "power" (defArgs s_power) (defBody s_power) (defScope s_power) .none kV16 dc16 pm16 an16 cd16 ct16), sl16⟩) (c16 : PySem.W.codeIn K cd16 "power" = true) (k16 : PySem.W.keepIn K (.ref f16) = true)
    (a17 : PySem.W.nsIn K mainGlobals "raised" = some (some (.ref f17))) (l17 : K.lookup f17 = some ⟨oc17, od17, .func (PySem.W.fnOf "raised" "raised" (defArgs s_raised) (defBody s_raised) (defScope s_raised) .none kV17 dc17 pm17 an17 cd17 ct17), sl17⟩) (c17 : PySem.W.codeIn K cd17 "raised" = true) (k17 : PySem.W.keepIn K (.ref f17) = true)
    (a18 : PySem.W.nsIn K mainGlobals "room" = some (some (.ref f18))) (l18 : K.lookup f18 = some ⟨oc18, od18, .func (PySem.W.fnOf "room" "room" (defArgs s_room) (defBody s_room) (defScope s_room) .none kV18 dc18 pm18 an18 cd18 ct18), sl18⟩) (c18 : PySem.W.codeIn K cd18 "room" = true) (k18 : PySem.W.keepIn K (.ref f18) = true)
    (a19 : PySem.W.nsIn K mainGlobals "lacks" = some (some (.ref f19))) (l19 : K.lookup f19 = some ⟨oc19, od19, .func (PySem.W.fnOf "lacks" "lacks" (defArgs s_lacks) (defBody s_lacks) (defScope s_lacks) .none kV19 dc19 pm19 an19 cd19 ct19), sl19⟩) (c19 : PySem.W.codeIn K cd19 "lacks" = true) (k19 : PySem.W.keepIn K (.ref f19) = true)
    (a20 : PySem.W.nsIn K mainGlobals "rooms" = some (some (.ref f20))) (l20 : K.lookup f20 = some ⟨oc20, od20, .func (PySem.W.fnOf "rooms" "rooms" (defArgs s_rooms) (defBody s_rooms) (defScope s_rooms) .none kV20 dc20 pm20 an20 cd20 ct20), sl20⟩) (c20 : PySem.W.codeIn K cd20 "rooms" = true) (k20 : PySem.W.keepIn K (.ref f20) = true)
    (a21 : PySem.W.nsIn K mainGlobals "level_error" = some (some (.ref f21))) (l21 : K.lookup f21 = some ⟨oc21, od21, .func (PySem.W.fnOf "level_error" "level_error" (defArgs s_level_error) (defBody s_level_error) (defScope s_level_error) .none kV21 dc21 pm21 an21 cd21 ct21), sl21⟩) (c21 : PySem.W.codeIn K cd21 "level_error" = true) (k21 : PySem.W.keepIn K (.ref f21) = true)
    (a22 : PySem.W.nsIn K mainGlobals "greatest_alignment" = some (some (.ref f22))) (l22 : K.lookup f22 = some ⟨oc22, od22, .func (PySem.W.fnOf "greatest_alignment" "greatest_alignment" (defArgs s_greatest_alignment) (defBody s_greatest_alignment) (defScope s_greatest_alignment) .none kV22 dc22 pm22 an22 cd22 ct22), sl22⟩) (c22 : PySem.W.codeIn K cd22 "greatest_alignment" = true) (k22 : PySem.W.keepIn K (.ref f22) = true)
    (a23 : PySem.W.nsIn K mainGlobals "places_of" = some (some (.ref f23))) (l23 : K.lookup f23 = some ⟨oc23, od23, .func (PySem.W.fnOf "places_of" "places_of" (defArgs s_places_of) (defBody s_places_of) (defScope s_places_of) .none kV23 dc23 pm23 an23 cd23 ct23), sl23⟩) (c23 : PySem.W.codeIn K cd23 "places_of" = true) (k23 : PySem.W.keepIn K (.ref f23) = true)
    (a24 : PySem.W.nsIn K mainGlobals "rooms_whole" = some (some (.ref f24))) (l24 : K.lookup f24 = some ⟨oc24, od24, .func (PySem.W.fnOf "rooms_whole" "rooms_whole" (defArgs s_rooms_whole) (defBody s_rooms_whole) (defScope s_rooms_whole) .none kV24 dc24 pm24 an24 cd24 ct24), sl24⟩) (c24 : PySem.W.codeIn K cd24 "rooms_whole" = true) (k24 : PySem.W.keepIn K (.ref f24) = true)
    (a25 : PySem.W.nsIn K mainGlobals "laid" = some (some (.ref f25))) (l25 : K.lookup f25 = some ⟨oc25, od25, .func (PySem.W.fnOf "laid" "laid" (defArgs s_laid) (defBody s_laid) (defScope s_laid) .none kV25 dc25 pm25 an25 cd25 ct25), sl25⟩) (c25 : PySem.W.codeIn K cd25 "laid" = true) (k25 : PySem.W.keepIn K (.ref f25) = true)
    (a26 : PySem.W.nsIn K mainGlobals "row_whole" = some (some (.ref f26))) (l26 : K.lookup f26 = some ⟨oc26, od26, .func (PySem.W.fnOf "row_whole" "row_whole" (defArgs s_row_whole) (defBody s_row_whole) (defScope s_row_whole) .none kV26 dc26 pm26 an26 cd26 ct26), sl26⟩) (c26 : PySem.W.codeIn K cd26 "row_whole" = true) (k26 : PySem.W.keepIn K (.ref f26) = true)
    (a27 : PySem.W.nsIn K mainGlobals "law" = some (some (.ref f27))) (l27 : K.lookup f27 = some ⟨oc27, od27, .func (PySem.W.fnOf "law" "law" (defArgs s_law) (defBody s_law) (defScope s_law) .none kV27 dc27 pm27 an27 cd27 ct27), sl27⟩) (c27 : PySem.W.codeIn K cd27 "law" = true) (k27 : PySem.W.keepIn K (.ref f27) = true)
    (z0 : PySem.W.nsIn K mainGlobals "enumerate" = some none)
    (z1 : PySem.W.nsIn K mainGlobals "int" = some none)
    (z2 : PySem.W.nsIn K mainGlobals "len" = some none)
    (z3 : PySem.W.nsIn K mainGlobals "list" = some none)
    (z4 : PySem.W.nsIn K mainGlobals "max" = some none)
    (z5 : PySem.W.nsIn K mainGlobals "min" = some none)
    (z6 : PySem.W.nsIn K mainGlobals "range" = some none)
    (z7 : PySem.W.nsIn K mainGlobals "repr" = some none)
    (z8 : PySem.W.nsIn K mainGlobals "sum" = some none)
    (z9 : PySem.W.nsIn K mainGlobals "tuple" = some none)
    (z10 : PySem.W.nsIn K mainGlobals "zip" = some none)
    : ∃ fd : FuncData, (∀ (s : Shared) (v : Value), BindsTo s fd ⟨[v], []⟩ [("script", v)]) ∧ ∀ base : Heap, K.In base → base.Ns mainGlobals mg → Fg l.prog w K mg base 5 fa fd ["script"] (spF K (run tbl 5 211)) := by
  have e := hfa.symm.trans (PySem.W.mg_of X G a27)
  cases e
  refine ⟨PySem.W.fnOf "law" "law" (defArgs s_law) (defBody s_law) (defScope s_law) .none kV27 dc27 pm27 an27 cd27 ct27, fun s v => .of_eq rfl, fun base _ _ => ?_⟩
  have D0 : DefIn K mg s_q_law_deck "_law_deck" := ⟨f0, oc0, od0, kV0, dc0, pm0, an0, cd0, ct0, sl0, l0, c0, PySem.W.mg_of X G a0, k0⟩
  have D1 : DefIn K mg s_q_law_draw "_law_draw" := ⟨f1, oc1, od1, kV1, dc1, pm1, an1, cd1, ct1, sl1, l1, c1, PySem.W.mg_of X G a1, k1⟩
  have D2 : DefIn K mg s_q_law_record "_law_record" := ⟨f2, oc2, od2, kV2, dc2, pm2, an2, cd2, ct2, sl2, l2, c2, PySem.W.mg_of X G a2, k2⟩
  have D3 : DefIn K mg s_q_law_up "_law_up" := ⟨f3, oc3, od3, kV3, dc3, pm3, an3, cd3, ct3, sl3, l3, c3, PySem.W.mg_of X G a3, k3⟩
  have D4 : DefIn K mg s_q_law_wide "_law_wide" := ⟨f4, oc4, od4, kV4, dc4, pm4, an4, cd4, ct4, sl4, l4, c4, PySem.W.mg_of X G a4, k4⟩
  have D5 : DefIn K mg s_q_law_least "_law_least" := ⟨f5, oc5, od5, kV5, dc5, pm5, an5, cd5, ct5, sl5, l5, c5, PySem.W.mg_of X G a5, k5⟩
  have D6 : DefIn K mg s_q_law_pick "_law_pick" := ⟨f6, oc6, od6, kV6, dc6, pm6, an6, cd6, ct6, sl6, l6, c6, PySem.W.mg_of X G a6, k6⟩
  have D7 : DefIn K mg s_q_law_kind "_law_kind" := ⟨f7, oc7, od7, kV7, dc7, pm7, an7, cd7, ct7, sl7, l7, c7, PySem.W.mg_of X G a7, k7⟩
  have D8 : DefIn K mg s_q_law_level "_law_level" := ⟨f8, oc8, od8, kV8, dc8, pm8, an8, cd8, ct8, sl8, l8, c8, PySem.W.mg_of X G a8, k8⟩
  have D9 : DefIn K mg s_q_law_mixed "_law_mixed" := ⟨f9, oc9, od9, kV9, dc9, pm9, an9, cd9, ct9, sl9, l9, c9, PySem.W.mg_of X G a9, k9⟩
  have D10 : DefIn K mg s_q_law_just "_law_just" := ⟨f10, oc10, od10, kV10, dc10, pm10, an10, cd10, ct10, sl10, l10, c10, PySem.W.mg_of X G a10, k10⟩
  have D11 : DefIn K mg s_q_law_room "_law_room" := ⟨f11, oc11, od11, kV11, dc11, pm11, an11, cd11, ct11, sl11, l11, c11, PySem.W.mg_of X G a11, k11⟩
  have D12 : DefIn K mg s_q_law_lack "_law_lack" := ⟨f12, oc12, od12, kV12, dc12, pm12, an12, cd12, ct12, sl12, l12, c12, PySem.W.mg_of X G a12, k12⟩
  have D13 : DefIn K mg s_q_law_power "_law_power" := ⟨f13, oc13, od13, kV13, dc13, pm13, an13, cd13, ct13, sl13, l13, c13, PySem.W.mg_of X G a13, k13⟩
  have D14 : DefIn K mg s_q_law_pair "_law_pair" := ⟨f14, oc14, od14, kV14, dc14, pm14, an14, cd14, ct14, sl14, l14, c14, PySem.W.mg_of X G a14, k14⟩
  have D15 : DefIn K mg s_q_law_row_whole "_law_row_whole" := ⟨f15, oc15, od15, kV15, dc15, pm15, an15, cd15, ct15, sl15, l15, c15, PySem.W.mg_of X G a15, k15⟩
  have D16 : DefIn K mg s_power "power" := ⟨f16, oc16, od16, kV16, dc16, pm16, an16, cd16, ct16, sl16, l16, c16, PySem.W.mg_of X G a16, k16⟩
  have D17 : DefIn K mg s_raised "raised" := ⟨f17, oc17, od17, kV17, dc17, pm17, an17, cd17, ct17, sl17, l17, c17, PySem.W.mg_of X G a17, k17⟩
  have D18 : DefIn K mg s_room "room" := ⟨f18, oc18, od18, kV18, dc18, pm18, an18, cd18, ct18, sl18, l18, c18, PySem.W.mg_of X G a18, k18⟩
  have D19 : DefIn K mg s_lacks "lacks" := ⟨f19, oc19, od19, kV19, dc19, pm19, an19, cd19, ct19, sl19, l19, c19, PySem.W.mg_of X G a19, k19⟩
  have D20 : DefIn K mg s_rooms "rooms" := ⟨f20, oc20, od20, kV20, dc20, pm20, an20, cd20, ct20, sl20, l20, c20, PySem.W.mg_of X G a20, k20⟩
  have D21 : DefIn K mg s_level_error "level_error" := ⟨f21, oc21, od21, kV21, dc21, pm21, an21, cd21, ct21, sl21, l21, c21, PySem.W.mg_of X G a21, k21⟩
  have D22 : DefIn K mg s_greatest_alignment "greatest_alignment" := ⟨f22, oc22, od22, kV22, dc22, pm22, an22, cd22, ct22, sl22, l22, c22, PySem.W.mg_of X G a22, k22⟩
  have D23 : DefIn K mg s_places_of "places_of" := ⟨f23, oc23, od23, kV23, dc23, pm23, an23, cd23, ct23, sl23, l23, c23, PySem.W.mg_of X G a23, k23⟩
  have D24 : DefIn K mg s_rooms_whole "rooms_whole" := ⟨f24, oc24, od24, kV24, dc24, pm24, an24, cd24, ct24, sl24, l24, c24, PySem.W.mg_of X G a24, k24⟩
  have D25 : DefIn K mg s_laid "laid" := ⟨f25, oc25, od25, kV25, dc25, pm25, an25, cd25, ct25, sl25, l25, c25, PySem.W.mg_of X G a25, k25⟩
  have D26 : DefIn K mg s_row_whole "row_whole" := ⟨f26, oc26, od26, kV26, dc26, pm26, an26, cd26, ct26, sl26, l26, c26, PySem.W.mg_of X G a26, k26⟩
  have D27 : DefIn K mg s_law "law" := ⟨fa, oc27, od27, kV27, dc27, pm27, an27, cd27, ct27, sl27, l27, c27, PySem.W.mg_of X G a27, k27⟩
  have m0 := PySem.W.mg_none_of X G z0
  have m1 := PySem.W.mg_none_of X G z1
  have m2 := PySem.W.mg_none_of X G z2
  have m3 := PySem.W.mg_none_of X G z3
  have m4 := PySem.W.mg_none_of X G z4
  have m5 := PySem.W.mg_none_of X G z5
  have m6 := PySem.W.mg_none_of X G z6
  have m7 := PySem.W.mg_none_of X G z7
  have m8 := PySem.W.mg_none_of X G z8
  have m9 := PySem.W.mg_none_of X G z9
  have m10 := PySem.W.mg_none_of X G z10
  have I : All l.prog w K mg base 4 := all_ok D0 D1 D2 D3 D4 D5 D6 D7 D8 D9 D10 D11 D12 D13 D14 D15 D16 D17 D18 D19 D20 D21 D22 D23 D24 D25 D26 D27 m0 m1 m2 m3 m4 m5 m6 m7 m8 m9 m10   4
  exact (fg_def l27 c27 S_law rfl rfl (b_law I.c_q_law_deck I.c_q_law_level I.c_q_law_draw I.c_q_law_just I.c_q_law_pair I.c_level_error I.c_q_law_record I.c_q_law_pick I.c_q_law_least I.c_rooms_whole I.c_q_law_mixed I.c_q_law_row_whole I.c_row_whole m6 m0 m9 m7 ) : Fg l.prog w K mg base (4 + 1) _ _ _ (spF K (runDef (run tbl 4) d_law)))
end
end FF.k15

/-! Tk15: least wholes of level books, by all ends. -/
namespace FF.k15
open PySem PySem.Spec L2 FF
/-! ### states -/
abbrev KS := List Int × Int
def ksD (k : KS) : D := .tup [rowD k.1, .int k.2]
def ksK (k : KS) : NestedKey := .tup [.tup (k.1.map .num), .num k.2]
theorem nks_row : ∀ q : List Int, nks (q.map D.int) = some (q.map NestedKey.num)
  | [] => rfl
  | x :: q => by rw [List.map_cons]; unfold nks; rw [nks_row q]; rfl
theorem depth_row : ∀ q : List Int, NestedKey.depthAll (q.map NestedKey.num) = 0
  | [] => rfl
  | x :: q => by rw [List.map_cons]; unfold NestedKey.depthAll; rw [depth_row q]; rfl
theorem nk_tup (ds : List D) : nk (.tup ds) = (nks ds).map .tup := by rw [nk]
theorem nks_cons (d : D) (ds : List D) : nks (d :: ds) = match nk d, nks ds with | some k, some ks => some (k :: ks) | _, _ => none := by
  cases hd : nk d <;> cases hs : nks ds <;> simp only [nks, hd, hs]
theorem depth_tup (ks : List NestedKey) : (NestedKey.tup ks).depth = NestedKey.depthAll ks + 1 := by rw [NestedKey.depth]
theorem depth_cons (k : NestedKey) (ks : List NestedKey) : NestedKey.depthAll (k :: ks) = max k.depth (NestedKey.depthAll ks) := by rw [NestedKey.depthAll]
theorem keyN_ks (k : KS) : keyN (ksD k) = some (ksK k) := by
  have e : nk (ksD k) = some (ksK k) := by
    unfold ksD rowD
    rw [nk_tup, nks_cons, nk_tup, nks_row]; rfl
  have d : (ksK k).depth ≤ 8 := by
    unfold ksK
    rw [depth_tup, depth_cons, depth_tup, depth_row, depth_cons]
    show max (0 + 1) (max 0 0) + 1 ≤ 8
    decide
  unfold keyN
  rw [if_pos (show isTupD (ksD k) = true from rfl), e]
  dsimp only
  rw [if_pos d]
theorem num_inj : ∀ {p q : List Int}, p.map NestedKey.num = q.map NestedKey.num → p = q
  | [], [], _ => rfl
  | [], _ :: _, h => by cases h
  | _ :: _, [], h => by cases h
  | x :: p, y :: q, h => by
    rw [List.map_cons, List.map_cons] at h
    have h1 := (List.cons.inj h).1
    have h2 := (List.cons.inj h).2
    cases h1
    rw [num_inj h2]
theorem ksK_inj {k l : KS} (h : ksK k = ksK l) : k = l := by
  unfold ksK at h
  have h := NestedKey.tup.inj h
  have h1 := num_inj (NestedKey.tup.inj (List.cons.inj h).1)
  have h2 := NestedKey.num.inj (List.cons.inj (List.cons.inj h).2).1
  exact Prod.ext h1 h2
def addK (ks : List KS) (k : KS) : List KS := if k ∈ ks then ks else ks ++ [k]
def entS (ks : List KS) : List (D × D) := ks.map fun k => (ksD k, .bl true)
theorem ent_any (k : KS) : ∀ ks : List KS, ((entS ks).any fun p => decide (keyN p.1 = some (ksK k))) = decide (k ∈ ks)
  | [] => rfl
  | l :: ks => by
    show (decide (keyN (ksD l) = some (ksK k)) || (entS ks).any _) = _
    rw [ent_any k ks, keyN_ks]
    by_cases h : l = k
    · subst h; simp
    · have : ¬ (k = l) := fun e => h e.symm
      rw [decide_eq_false (fun e => h (ksK_inj (Option.some.inj e)))]
      simp [this]
theorem nput_ks (ks : List KS) (k : KS) : nput (entS ks) (ksD k) (ksK k) (.bl true) = entS (addK ks k) := by
  unfold nput addK
  rw [ent_any]
  by_cases h : k ∈ ks
  · rw [if_pos (decide_eq_true h), if_pos h]
    unfold entS
    rw [List.map_map]
    refine List.map_congr_left fun l _ => ?_
    dsimp only [Function.comp]
    split <;> rfl
  · rw [if_neg (by simpa using h), if_neg h]
    unfold entS
    rw [List.map_append]; rfl
theorem fold_mem : ∀ (l acc : List KS) (x : KS), x ∈ l.foldl addK acc ↔ x ∈ acc ∨ x ∈ l
  | [], acc, x => by simp
  | k :: l, acc, x => by
    rw [List.foldl_cons, fold_mem l]
    have : x ∈ addK acc k ↔ x ∈ acc ∨ x = k := by
      unfold addK
      split
      · rename_i h
        constructor
        · exact .inl
        · rintro (h' | rfl)
          · exact h'
          · exact h
      · simp
    rw [this, List.mem_cons]
    constructor
    · rintro ((h | h) | h)
      · exact .inl h
      · exact .inr (.inl h)
      · exact .inr (.inr h)
    · rintro (h | h | h)
      · exact .inl (.inl h)
      · exact .inl (.inr h)
      · exact .inr h
theorem addK_len (acc : List KS) (k : KS) : (addK acc k).length ≤ acc.length + 1 := by unfold addK; split <;> simp
theorem fold_len : ∀ (l acc : List KS), (l.foldl addK acc).length ≤ acc.length + l.length
  | [], acc => by simp
  | k :: l, acc => by
    rw [List.foldl_cons, List.length_cons]
    have h1 := fold_len l (addK acc k)
    have h2 := addK_len acc k
    omega
def nxK (b : List (Int × Int)) (k : KS) (n : Nat) : List KS := (List.range n).filterMap fun z => if 0 < k.1.getD z 0 then some (lessP k.1 z, endB b k.2 (z : Int)) else none
theorem nx_succ (b : List (Int × Int)) (k : KS) (n : Nat) : nxK b k (n + 1) = nxK b k n ++ (if 0 < k.1.getD n 0 then [(lessP k.1 n, endB b k.2 (n : Int))] else []) := by
  unfold nxK
  rw [List.range_succ, List.filterMap_append]
  congr 1
  rw [List.filterMap_cons, List.filterMap_nil]
  split
  · rename_i h; split at h
    · cases h
    · rename_i c; rw [if_neg c]
  · rename_i h; split at h
    · rename_i c; cases h; rw [if_pos c]
    · cases h
theorem nx_len (b : List (Int × Int)) (k : KS) (n : Nat) : (nxK b k n).length ≤ n := by
  have := List.length_filterMap_le (fun z => if 0 < k.1.getD z 0 then some (lessP k.1 z, endB b k.2 (z : Int)) else none) (List.range n)
  rw [List.length_range] at this
  exact this
theorem nx_mem {b : List (Int × Int)} {k x : KS} {n : Nat} : x ∈ nxK b k n ↔ ∃ z, z < n ∧ 0 < k.1.getD z 0 ∧ x = (lessP k.1 z, endB b k.2 (z : Int)) := by
  unfold nxK
  rw [List.mem_filterMap]
  constructor
  · rintro ⟨z, hz, e⟩
    split at e
    · rename_i c; cases e; exact ⟨z, List.mem_range.mp hz, c, rfl⟩
    · cases e
  · rintro ⟨z, hz, c, rfl⟩
    exact ⟨z, List.mem_range.mpr hz, by rw [if_pos c]⟩
def stepK (b : List (Int × Int)) (ks : List KS) : List KS := (ks.flatMap fun k => nxK b k b.length).foldl addK []
def statesK (b : List (Int × Int)) (ms : List Int) : Nat → List KS
  | 0 => [(ms, 0)]
  | t + 1 => stepK b (statesK b ms t)
theorem flat_len (b : List (Int × Int)) : ∀ ks : List KS, (ks.flatMap fun k => nxK b k b.length).length ≤ ks.length * b.length
  | [] => by simp
  | k :: ks => by
    rw [List.flatMap_cons, List.length_append, List.length_cons, Nat.succ_mul]
    have h1 := nx_len b k b.length
    have h2 := flat_len b ks
    omega
theorem states_len (b : List (Int × Int)) (ms : List Int) : ∀ t, (statesK b ms t).length ≤ b.length ^ t
  | 0 => Nat.le_refl 1
  | t + 1 => by
    have h1 := states_len b ms t
    have h2 := fold_len ((statesK b ms t).flatMap fun k => nxK b k b.length) []
    have h3 := flat_len b (statesK b ms t)
    rw [statesK, Nat.pow_succ]
    unfold stepK
    have := Nat.mul_le_mul_right b.length h1
    rw [List.length_nil, Nat.zero_add] at h2
    omega
theorem states_mem {b : List (Int × Int)} {ms : List Int} (hl : ms.length = b.length) : ∀ t x, x ∈ statesK b ms t ↔ ∃ p ∈ rowsN ms t, x = (p.2, lastE b p.1 0)
  | 0, x => by
    rw [statesK, List.mem_singleton, rowsN]
    constructor
    · rintro rfl; exact ⟨([], ms), List.mem_singleton.mpr rfl, rfl⟩
    · rintro ⟨p, hp, rfl⟩
      rw [List.mem_singleton] at hp
      subst hp; rfl
  | t + 1, x => by
    have ih := states_mem hl t
    rw [statesK]
    unfold stepK
    rw [fold_mem, List.mem_flatMap, rowsN]
    unfold rowsStep
    constructor
    · rintro (h | ⟨k, hk, hx⟩)
      · cases h
      · obtain ⟨p, hp, rfl⟩ := (ih k).mp hk
        obtain ⟨z, hz, c, rfl⟩ := nx_mem.mp hx
        have l1 := ((rowsN_len ms t).2 p hp).1
        refine ⟨(p.1 ++ [(z : Int)], lessP p.2 z), List.mem_flatMap.mpr ⟨p, hp, List.mem_map.mpr ⟨(z : Int), places_mem.mpr ⟨by dsimp only at c; omega, c⟩, by rw [Int.toNat_natCast]⟩⟩, ?_⟩
        show (_, _) = (_, lastE b (p.1 ++ [(z : Int)]) 0)
        rw [lastE_app]; rfl
    · rintro ⟨q, hq, rfl⟩
      obtain ⟨p, hp, hq⟩ := List.mem_flatMap.mp hq
      obtain ⟨z, hz, rfl⟩ := List.mem_map.mp hq
      obtain ⟨j, rfl, hj, c⟩ := places_nat hz
      have l1 := ((rowsN_len ms t).2 p hp).1
      refine .inr ⟨(p.2, lastE b p.1 0), (ih _).mpr ⟨p, hp, rfl⟩, nx_mem.mpr ⟨j, by omega, c, ?_⟩⟩
      show (_, lastE b (p.1 ++ [(j : Int)]) 0) = _
      rw [lastE_app, Int.toNat_natCast]; rfl
theorem ends_min {b : List (Int × Int)} {ms : List Int} (hb : BookOk b) (hm : RecOk b ms) : 0 < (statesK b ms ms.sum.toNat).length ∧ minL ((statesK b ms ms.sum.toNat).map (·.2)) = leastE b ms := by
  obtain ⟨e1, e2, e3, e4⟩ := rowL_ok (b := b) hm
  have hin : leastE b ms ∈ (statesK b ms ms.sum.toNat).map (·.2) := by
    have h := rowsN_all (b := b) (rowL b ms) [] (by rw [List.append_nil]; exact e4)
    rw [List.append_nil, e1] at h
    have et : (rowL b ms).length = ms.sum.toNat := by omega
    rw [et] at h
    exact List.mem_map.mpr ⟨_, (states_mem hm.len _ _).mpr ⟨_, h, rfl⟩, e2⟩
  have h0 : 0 < ((statesK b ms ms.sum.toNat).map (·.2)).length := List.length_pos_of_mem hin
  refine ⟨by rw [List.length_map] at h0; exact h0, ?_⟩
  have h1 := minL_le hin
  obtain ⟨x, hx, ex⟩ := List.mem_map.mp (minL_mem h0)
  obtain ⟨p, hp, rfl⟩ := (states_mem hm.len _ _).mp hx
  have hr : p.1 ∈ rowsOf ms := List.mem_map.mpr ⟨p, hp, rfl⟩
  obtain ⟨n1, n2, n3⟩ := rows_sound hm.len (fun m h => (hm.nat m h).1) hr
  have := least_row hb _ p.1 rfl n3
  rw [n1] at this
  dsimp only at ex
  omega
/-! ### the dict -/
theorem o_dispN {n : Nat} {k : KS} {h : Hq} {P : D × Hq → Prop} (hn : h[n]? = some (.dctN [])) (p : P (.ref n, h.set n (.dctN (entS [k])))) : OkO (dispND n (ksD k) (.bl true) h) P := ⟨_, by simp [dispND, hn, keyN_ks, hset, entS], p⟩
theorem o_setN {n : Nat} {ks : List KS} {k : KS} {h : Hq} {P : Hq → Prop} (hn : h[n]? = some (.dctN (entS ks))) (hl : ks.length < 16777216) (p : P (h.set n (.dctN (entS (addK ks k))))) : OkO (setND (.ref n) (ksD k) (.bl true) h) P := by
  refine ⟨_, ?_, p⟩
  unfold setND
  dsimp only
  rw [hn]
  dsimp only
  rw [keyN_ks]
  dsimp only
  rw [if_pos (by unfold entS; rw [List.length_map]; exact hl), nput_ks]
  rfl
theorem o_listN {n : Nat} {ks : List KS} {h : Hq} {P : D × Hq → Prop} (hn : h[n]? = some (.dctN (entS ks))) (hl : ks.length ≤ 16777216) (p : P (.lst (ks.map ksD), h)) : OkO (listND false (.ref n) h) P := by
  refine ⟨_, ?_, p⟩
  unfold listND keysN
  dsimp only
  rw [hn]
  dsimp only
  have e : (entS ks).map (·.1) = ks.map ksD := by unfold entS; rw [List.map_map]; rfl
  rw [e]
  simp [mkL, lineOk, hl]
theorem snds_ks : ∀ ks : List KS, sndsOf (ks.map ksD) = some ((ks.map (·.2)).map D.int)
  | [] => rfl
  | k :: ks => by
    rw [List.map_cons]
    unfold sndsOf
    rw [snds_ks ks]; rfl
theorem o_sndN {n : Nat} {ks : List KS} {h : Hq} {P : D × Hq → Prop} (hn : h[n]? = some (.dctN (entS ks))) (hl : ks.length ≤ 16777216) (p : P (.lst ((ks.map (·.2)).map .int), h)) : OkO (sndND false (.ref n) h) P := by
  refine ⟨_, ?_, p⟩
  have e : (entS ks).map (·.1) = ks.map ksD := by unfold entS; rw [List.map_map]; rfl
  have e2 : keysN h (.ref n) = some (ks.map ksD) := by
    unfold keysN
    dsimp only
    rw [hn]
    dsimp only
    rw [e]
  unfold sndND
  rw [e2]
  show (match sndsOf (ks.map ksD) with | some ds => mkL false ds h | none => none) = _
  rw [snds_ks]
  simp [mkL, lineOk, hl]
theorem app_at (own : Hq) (o : Ob) : (own ++ [o])[own.length]? = some o := by rw [List.getElem?_append_right (Nat.le_refl _)]; simp
theorem app_set (own : Hq) (o u : Ob) : (own ++ [o]).set own.length u = own ++ [u] := by rw [List.set_append_right _ _ (Nat.le_refl _)]; simp
theorem pow6 {n t : Nat} (h : n ≤ 6) (ht : t ≤ 6) : n ^ t ≤ 46656 := Nat.le_trans (Nat.pow_le_pow_left h t) (Nat.le_trans (Nat.pow_le_pow_right (by decide) ht) (by decide))
def LeastKOk (f : List D → Hq → R (D × Hq)) : Prop := ∀ (b : List (Int × Int)) (ms : List Int) (h : Hq), BookOk b → b.length ≤ 6 → RecOk b ms → ms.sum ≤ 6 → Wp (f [bookD b, rowD ms] h) fun p => p = (.int (leastW b ms), h)
theorem least_ok {φ : Fn} (h61 : UpOk (φ 61)) (h208 : GreatLOk (φ 208)) : LeastKOk (runDef φ d_q_law_least) := by
  intro b ms h hb b6 hm hs
  have ml := hm.len
  have s0 : 0 ≤ ms.sum := (sum_pos fun m h => (hm.nat m h).1).1
  refine pure_def rfl rfl ?_ rfl ?_
  · simp [D.pures, book_pure, row_pure]
  refine FF.x_cons ?_
  refine FF.x_set ?_
  refine FF.x_dispN ?_
  refine FF.x_tup ?_
  refine FF.x_acons ?_
  refine FF.x_var (by rfl) ?_
  refine FF.x_acons ?_
  refine FF.x_const ?_
  refine FF.x_anil ?_
  refine FF.OkO.of rfl ?_
  refine FF.x_const ?_
  try dsimp only [List.set_cons_zero, List.set_cons_succ]
  refine o_dispN (k := (ms, 0)) rfl ?_
  refine FF.OkO.of rfl ?_
  refine FF.nxt_nx ?_
  try dsimp only [List.set_cons_zero, List.set_cons_succ]
  refine FF.x_cons ?_
  refine FF.x_for ?_
  refine FF.x_range1 ?_
  refine FF.x_bi ?_
  refine FF.x_acons ?_
  refine FF.x_var (by rfl) ?_
  refine FF.x_anil ?_
  refine FF.o_sum ?_
  refine FF.o_rng1 (by omega) (by omega) ?_
  try dsimp only [List.set_cons_zero, List.set_cons_succ]
  refine wp_loopF (fun t s h => ∃ (own : Hq) (d3 d4 d5 d6 d7 d8 d9 : Option D), s = [some (bookD b), some (rowD ms), some (.ref own.length), d3, d4, d5, d6, d7, d8, d9] ∧ h = own ++ [.dctN (entS (statesK b ms t))]) _ 0 _ _ ⟨[], _, _, _, _, _, _, _, rfl, rfl⟩ ?_ ?_
  · rintro t d s h e ⟨own, d3, d4, d5, d6, d7, d8, d9, rfl, rfl⟩
    obtain ⟨rfl, ht⟩ := rangeL_get e
    rw [Nat.zero_add] at *
    refine ⟨rfl, ?_⟩
    have kl : (statesK b ms t).length ≤ 46656 := Nat.le_trans (states_len b ms t) (pow6 b6 (by omega))
    have kp : ∀ k ∈ statesK b ms t, k.1.length = b.length := fun k hk => by
      obtain ⟨p, hp, rfl⟩ := (states_mem ml t k).mp hk
      rw [((rowsN_len ms t).2 p hp).1]; exact ml
    refine FF.x_stepL ?_
    refine FF.OkO.of rfl ?_
    refine FF.x_cons ?_
    refine FF.x_set ?_
    refine FF.x_tup ?_
    refine FF.x_acons ?_
    refine FF.x_listN ?_
    refine FF.x_var (by rfl) ?_
    try dsimp only [List.set_cons_zero, List.set_cons_succ]
    refine o_listN (app_at _ _) (by omega) ?_
    refine FF.x_acons ?_
    refine FF.x_newN ?_
    refine FF.x_anil ?_
    refine FF.OkO.of rfl ?_
    refine FF.OkO.of rfl ?_
    refine FF.nxt_nx ?_
    try dsimp only [List.set_cons_zero, List.set_cons_succ]
    refine FF.x_cons ?_
    refine FF.x_for ?_
    refine FF.x_iex ?_
    refine FF.x_var (by rfl) ?_
    refine FF.OkO.of rfl ?_
    try dsimp only [List.set_cons_zero, List.set_cons_succ]
    generalize hown : own ++ [Ob.dctN (entS (statesK b ms t))] = own1
    generalize hks : statesK b ms t = ks at kl kp
    refine wp_loopF (fun i s h => ∃ (d5 d6 d7 d8 : Option D), s = [some (bookD b), some (rowD ms), some (.ref own1.length), some (.int (0 + (t : Int))), some (.lst (ks.map ksD)), d5, d6, d7, d8, d9] ∧ h = own1 ++ [.dctN (entS (((ks.take i).flatMap fun k => nxK b k b.length).foldl addK []))]) _ 0 _ _ ⟨_, _, _, _, rfl, rfl⟩ ?_ ?_
    · rintro i d s h e ⟨d5, d6, d7, d8, rfl, rfl⟩
      rw [Nat.zero_add]
      rw [List.getElem?_map] at e
      obtain ⟨k, hk, rfl⟩ := Option.map_eq_some_iff.mp e
      have hkm : k ∈ ks := List.mem_of_getElem? hk
      have hi : i < ks.length := (List.getElem?_eq_some_iff.mp hk).1
      have hq := kp k hkm
      refine ⟨rfl, ?_⟩
      generalize hacc : ((ks.take i).flatMap fun k => nxK b k b.length) = acc
      have al : acc.length ≤ 46656 * 6 := by
        rw [← hacc]
        have h1 := flat_len b (ks.take i)
        have h2 : (ks.take i).length ≤ 46656 := by rw [List.length_take]; omega
        have h3 := Nat.mul_le_mul h2 b6
        omega
      refine FF.x_stepL ?_
      refine FF.OkO.of rfl ?_
      refine FF.x_cons ?_
      refine FF.x_for ?_
      refine FF.x_range1 ?_
      refine FF.x_bi ?_
      refine FF.x_acons ?_
      refine FF.x_var (by rfl) ?_
      refine FF.x_anil ?_
      refine FF.OkO.of rfl ?_
      try dsimp only [List.set_cons_zero, List.set_cons_succ]
      rw [List.length_map]
      refine o_rng1 (by omega) (by omega) ?_
      try dsimp only [List.set_cons_zero, List.set_cons_succ]
      refine wp_loopF (fun z s h => ∃ (d7 d8 : Option D), s = [some (bookD b), some (rowD ms), some (.ref own1.length), some (.int (0 + (t : Int))), some (.lst (ks.map ksD)), some (rowD k.1), some (.int k.2), d7, d8, d9] ∧ h = own1 ++ [.dctN (entS ((nxK b k z).foldl addK (acc.foldl addK [])))]) _ 0 _ _ ⟨_, _, rfl, rfl⟩ ?_ ?_
      · rintro z d s h e ⟨d7, d8, rfl, rfl⟩
        obtain ⟨rfl, hz⟩ := rangeL_get e
        rw [Nat.zero_add] at *
        refine ⟨rfl, ?_⟩
        have hz' : z < k.1.length := by omega
        obtain ⟨hk2, ek⟩ := kindAt_ok hb (z := (z : Int)) (by omega)
        have k0 := hk2.a0
        have k1 := hk2.a1
        have cl : ((nxK b k z).foldl addK (acc.foldl addK [])).length < 16777216 := by
          have h1 := fold_len (nxK b k z) (acc.foldl addK [])
          have h2 := fold_len acc []
          have h3 := nx_len b k z
          rw [List.length_nil] at h2
          omega
        rw [Int.zero_add]
        refine FF.x_stepL ?_
        refine FF.OkO.of rfl ?_
        refine FF.x_cons ?_
        refine FF.x_ite ?_
        refine FF.x_cmp ?_
        refine FF.x_ix ?_
        refine FF.x_var (by rfl) ?_
        refine FF.x_var (by rfl) ?_
        try dsimp only [List.set_cons_zero, List.set_cons_succ]
        refine o_ixT (at_row hz') ?_
        refine FF.x_const ?_
        refine FF.OkO.of rfl ?_
        refine FF.OkO.of rfl ?_
        try dsimp only [List.set_cons_zero, List.set_cons_succ]
        refine ⟨fun c => ?_, fun c => ?_⟩
        · have c := of_decide_eq_true c
          refine FF.x_cons ?_
          refine FF.x_set ?_
          refine FF.x_bin ?_
          refine FF.x_bin ?_
          refine FF.x_slice ?_
          refine FF.x_var (by rfl) ?_
          refine FF.x_no ?_
          refine FF.x_yes ?_
          refine FF.x_var (by rfl) ?_
          refine ⟨_, rfl, ?_⟩
          refine FF.OkO.of rfl ?_
          refine FF.x_tup ?_
          refine FF.x_acons ?_
          refine FF.x_bin ?_
          refine FF.x_ix ?_
          refine FF.x_var (by rfl) ?_
          refine FF.x_var (by rfl) ?_
          try dsimp only [List.set_cons_zero, List.set_cons_succ]
          refine o_ixT (at_row hz') ?_
          refine FF.x_const ?_
          refine FF.OkO.of rfl ?_
          refine FF.x_anil ?_
          refine FF.OkO.of rfl ?_
          try dsimp only [List.set_cons_zero, List.set_cons_succ]
          rw [cut_toR (by omega)]
          refine o_addT (by rw [List.length_map, List.length_take]; show _ + 1 ≤ _; omega) ?_
          refine FF.x_slice ?_
          refine FF.x_var (by rfl) ?_
          refine FF.x_yes ?_
          refine FF.x_bin ?_
          refine FF.x_var (by rfl) ?_
          refine FF.x_const ?_
          refine FF.OkO.of rfl ?_
          refine ⟨_, rfl, ?_⟩
          refine FF.x_no ?_
          refine FF.OkO.of rfl ?_
          try dsimp only [List.set_cons_zero, List.set_cons_succ]
          rw [cut_fromR hz']
          refine o_addT (by rw [List.length_append, List.length_map, List.length_map, List.length_take, List.length_drop]; show _ + 1 + _ ≤ _; omega) ?_
          refine FF.OkO.of rfl ?_
          refine FF.nxt_nx ?_
          try dsimp only [List.set_cons_zero, List.set_cons_succ]
          refine FF.x_cons ?_
          refine FF.x_setN ?_
          refine FF.x_const ?_
          refine FF.x_var (by rfl) ?_
          refine FF.x_tup ?_
          refine FF.x_acons ?_
          refine FF.x_var (by rfl) ?_
          refine FF.x_acons ?_
          refine FF.x_bin ?_
          refine FF.x_call ?_
          refine FF.x_acons ?_
          refine FF.x_var (by rfl) ?_
          refine FF.x_acons ?_
          refine FF.x_ix ?_
          refine FF.x_ix ?_
          refine FF.x_var (by rfl) ?_
          refine FF.x_var (by rfl) ?_
          try dsimp only [List.set_cons_zero, List.set_cons_succ]
          rw [less_row hz']
          try dsimp only [List.set_cons_zero, List.set_cons_succ]
          refine o_ixT (ds := b.map kindD) ek ?_
          refine FF.x_const ?_
          refine FF.OkO.of rfl ?_
          refine FF.x_anil ?_
          refine (FF.Wp.mono (h61 _ _ _ (by first | assumption | omega | decide) (by first | assumption | omega | decide)) ?_)
          rintro _ rfl
          refine FF.x_ix ?_
          refine FF.x_ix ?_
          refine FF.x_var (by rfl) ?_
          refine FF.x_var (by rfl) ?_
          try dsimp only [List.set_cons_zero, List.set_cons_succ]
          refine o_ixT (ds := b.map kindD) ek ?_
          refine FF.x_const ?_
          refine FF.OkO.of rfl ?_
          refine FF.OkO.of rfl ?_
          refine FF.x_anil ?_
          refine FF.OkO.of rfl ?_
          try dsimp only [List.set_cons_zero, List.set_cons_succ]
          refine o_setN (k := (lessP k.1 z, endB b k.2 (z : Int))) (app_at _ _) cl ?_
          rw [app_set]
          refine FF.nxt_nx ?_
          try dsimp only [List.set_cons_zero, List.set_cons_succ]
          refine FF.x_nil ?_
          refine FF.nxt_nx ?_
          try dsimp only [List.set_cons_zero, List.set_cons_succ]
          refine FF.x_nil ?_
          try dsimp only [List.set_cons_zero, List.set_cons_succ]
          refine ⟨_, _, rfl, ?_⟩
          rw [nx_succ, if_pos c, List.foldl_append]; rfl
        · have c := of_decide_eq_false c
          refine FF.x_nil ?_
          refine FF.nxt_nx ?_
          try dsimp only [List.set_cons_zero, List.set_cons_succ]
          refine FF.x_nil ?_
          try dsimp only [List.set_cons_zero, List.set_cons_succ]
          refine ⟨_, _, rfl, ?_⟩
          rw [nx_succ, if_neg c, List.append_nil]
      · rintro s h ⟨d7, d8, rfl, rfl⟩
        refine ⟨rfl, ?_⟩
        rw [Nat.zero_add, rangeL_len, show ((b.length : Int) - 0).toNat = b.length by omega]
        refine FF.nxt_nx ?_
        try dsimp only [List.set_cons_zero, List.set_cons_succ]
        refine FF.x_nil ?_
        try dsimp only [List.set_cons_zero, List.set_cons_succ]
        refine ⟨_, _, _, _, rfl, ?_⟩
        rw [List.take_add_one, hk, List.flatMap_append, hacc, List.foldl_append]
        show _ = own1 ++ [Ob.dctN (entS (([k].flatMap fun k => nxK b k b.length).foldl addK (acc.foldl addK [])))]
        rw [List.flatMap_cons, List.flatMap_nil, List.append_nil]
    · rintro s h ⟨d5, d6, d7, d8, rfl, rfl⟩
      refine ⟨rfl, ?_⟩
      refine FF.nxt_nx ?_
      try dsimp only [List.set_cons_zero, List.set_cons_succ]
      refine FF.x_nil ?_
      try dsimp only [List.set_cons_zero, List.set_cons_succ]
      refine ⟨own1, _, _, _, _, _, _, _, rfl, ?_⟩
      rw [statesK, hks, List.take_of_length_le (by rw [Nat.zero_add, List.length_map]; exact Nat.le_refl _)]
      rfl
  · rintro s h ⟨own, d3, d4, d5, d6, d7, d8, d9, rfl, rfl⟩
    refine ⟨rfl, ?_⟩
    rw [Nat.zero_add, rangeL_len, Int.sub_zero]
    obtain ⟨e0, em⟩ := ends_min hb hm
    have kl : (statesK b ms ms.sum.toNat).length ≤ 46656 := Nat.le_trans (states_len b ms _) (pow6 b6 (by omega))
    refine FF.nxt_nx ?_
    try dsimp only [List.set_cons_zero, List.set_cons_succ]
    refine FF.x_cons ?_
    refine FF.x_set ?_
    refine FF.x_bi ?_
    refine FF.x_acons ?_
    refine FF.x_sndN ?_
    try dsimp only [List.set_cons_zero, List.set_cons_succ]
    refine ⟨by simp, ?_⟩
    refine FF.x_var (by rfl) ?_
    try dsimp only [List.set_cons_zero, List.set_cons_succ]
    refine o_sndN (app_at _ _) (by omega) ?_
    refine FF.x_anil ?_
    try dsimp only [List.set_cons_zero, List.set_cons_succ]
    refine o_minL (by rw [List.length_map]; exact e0) ?_
    rw [em]
    refine FF.OkO.of rfl ?_
    refine FF.nxt_nx ?_
    try dsimp only [List.set_cons_zero, List.set_cons_succ]
    refine FF.x_cons ?_
    refine FF.x_ret ?_
    refine FF.x_call ?_
    refine FF.x_acons ?_
    refine FF.x_var (by rfl) ?_
    refine FF.x_acons ?_
    refine FF.x_call ?_
    refine FF.x_acons ?_
    refine FF.x_var (by rfl) ?_
    refine FF.x_acons ?_
    refine FF.x_comp ?_
    refine FF.x_enum ?_
    refine FF.x_var (by rfl) ?_
    refine FF.OkO.of rfl ?_
    try dsimp only [List.set_cons_zero, List.set_cons_succ]
    rw [show enumL (ms.map D.int) = _ from enumL_map D.int ms]
    refine wp_fmap (fun p : Int × Nat => D.tup [.int (p.2 : Nat), .int p.1]) (fun p : Int × Nat => (if 0 < p.1 then some (p.2 : Int) else none).map D.int) ms.zipIdx (by rfl) (by rw [List.length_zipIdx]; have := hb.len; omega) (fun p hp => ?_) ?_
    · refine FF.x_stepC ?_
      refine FF.OkO.of rfl ?_
      refine FF.x_if1 ?_
      refine FF.x_cmp ?_
      refine FF.x_var (by rfl) ?_
      refine FF.x_const ?_
      refine FF.OkO.of rfl ?_
      refine FF.OkO.of rfl ?_
      try dsimp only [List.set_cons_zero, List.set_cons_succ]
      refine ⟨fun c => ?_, fun c => ?_⟩
      · refine FF.x_var (by rfl) ?_
        try dsimp only [List.set_cons_zero, List.set_cons_succ]
        rw [if_pos (of_decide_eq_true c)]
        rfl
      · rw [if_neg (of_decide_eq_false c)]
        rfl
    rw [filterMap_int]
    have pl := places_len ms
    have bl := hb.len
    refine o_lst (by rw [List.length_map]; unfold placesI at pl; omega) ?_
    refine FF.x_anil ?_
    try dsimp only [List.set_cons_zero, List.set_cons_succ]
    have pw := places_with b ms (by omega)
    have p0 : 0 < (placesI ms).length := by
      have := withF_some ml hm.some'
      rw [← pw, List.length_map] at this
      exact this
    refine (h208 b (placesI ms) _ hb p0 (by omega) fun z hz => by have := places_in hz; omega).mono ?_
    rintro _ rfl
    refine FF.x_anil ?_
    try dsimp only [List.set_cons_zero, List.set_cons_succ]
    have e : (placesI ms).map (fun z => (kindAt b z).2) = (withF b ms).map fun k => k.2 := by rw [← pw, List.map_map]; rfl
    have st := recStep_bd hb hm
    rw [e]
    refine (h61 (leastE b ms) (recStep b ms) _ st.1 st.2.1).mono ?_
    rintro _ rfl
    refine FF.nxt_rt ?_
    try dsimp only [List.set_cons_zero, List.set_cons_succ]
    refine FF.end_rt ?_
    try dsimp only [List.set_cons_zero, List.set_cons_succ]
    exact thaw1_pure rfl
/-! ### records, rows -/
def RecDOk (f : List D → Hq → R (D × Hq)) : Prop := ∀ (b : List (Int × Int)) (many : Nat), BookOk b → 0 < b.length → b.length ≤ 6 → many ≤ 6 → FDraws deckF f [.ref deckF.root, bookD b, .int many] fun x => ∃ ms : List Int, x = rowD ms ∧ ms.length = b.length ∧ (∀ m ∈ ms, 0 ≤ m) ∧ ms.sum = many
theorem rec_ok {φ : Fn} (hd : FDrawOk deckF (φ 53)) : RecDOk (runDef φ d_q_law_record) := by
  intro b many hb b0 b6 m6
  refine fdraws_trim rfl rfl fun s rest ok u => ?_
  refine FF.x_cons ?_
  refine FF.x_set ?_
  refine FF.x_bin ?_
  refine FF.x_lst ?_
  refine FF.x_acons ?_
  refine FF.x_const ?_
  refine FF.x_anil ?_
  refine FF.OkO.of rfl ?_
  refine FF.x_bi ?_
  refine FF.x_acons ?_
  refine FF.x_var (by rfl) ?_
  refine FF.x_anil ?_
  refine FF.OkO.of rfl ?_
  try dsimp only [List.set_cons_zero, List.set_cons_succ]
  rw [List.length_map]
  refine o_mulLF (by omega) (by omega) (by simp; omega) ?_
  rw [show (List.replicate ((b.length : Nat) : Int).toNat [D.int 0]).flatten = (List.replicate b.length (0 : Int)).map D.int by rw [Int.toNat_natCast, List.flatten_replicate_singleton, List.map_replicate]]
  refine FF.OkO.of rfl ?_
  refine FF.nxt_nx ?_
  try dsimp only [List.set_cons_zero, List.set_cons_succ]
  refine FF.x_cons ?_
  refine FF.x_for ?_
  refine FF.x_range1 ?_
  refine FF.x_var (by rfl) ?_
  refine FF.o_rng1 (by omega) (by omega) ?_
  try dsimp only [List.set_cons_zero, List.set_cons_succ]
  refine wp_loopF (fun k st h => ∃ (ms : List Int) (d4 d5 : Option D) (s : DeckS), st = [some (.ref deckF.root), some (bookD b), some (.int (many : Nat)), some (.ref (rest.length + deckF.n)), d4, d5] ∧ h = deckF.h s (rest ++ [.lst (ms.map .int)]) ∧ deckF.ok s ∧ ms.length = b.length ∧ (∀ m ∈ ms, 0 ≤ m) ∧ ms.sum = k) _ 0 _ _ ⟨List.replicate b.length 0, _, _, _, rfl, rfl, ok, by simp, fun m hm => by rw [List.eq_of_mem_replicate hm]; decide, sum_rep0 b.length⟩ ?_ ?_
  · rintro i d st h e ⟨ms, d4, d5, s, rfl, rfl, ok, ml, mn, sm⟩
    obtain ⟨rfl, hi⟩ := rangeL_get e
    have u2 := fund_app (ds := ms.map D.int) u (pures_map _ fun _ _ => rfl)
    refine ⟨rfl, ?_⟩
    refine FF.x_stepL ?_
    refine FF.OkO.of rfl ?_
    refine FF.x_cons ?_
    refine FF.x_set ?_
    refine FF.x_call ?_
    refine FF.x_acons ?_
    refine FF.x_var (by rfl) ?_
    refine FF.x_acons ?_
    refine FF.x_bi ?_
    refine FF.x_acons ?_
    refine FF.x_var (by rfl) ?_
    refine FF.x_anil ?_
    refine FF.OkO.of rfl ?_
    refine FF.x_anil ?_
    try dsimp only [List.set_cons_zero, List.set_cons_succ]
    rw [List.length_map]
    refine (fdraw hd (many := (b.length : Nat)) (by omega) (log_small b0 (by omega)) _ _ ok u2).mono ?_
    rintro ⟨_, _⟩ ⟨_, ee, ok, y, ee2, y0, y1⟩
    dsimp only at ee ee2
    subst ee; subst ee2
    obtain ⟨j, rfl⟩ := Int.eq_ofNat_of_zero_le y0
    have hj : j < ms.length := by omega
    refine FF.OkO.of rfl ?_
    refine FF.nxt_nx ?_
    try dsimp only [List.set_cons_zero, List.set_cons_succ]
    refine FF.x_cons ?_
    refine FF.x_setIx ?_
    refine FF.x_bin ?_
    refine FF.x_ix ?_
    refine FF.x_var (by rfl) ?_
    refine FF.x_var (by rfl) ?_
    try dsimp only [List.set_cons_zero, List.set_cons_succ]
    refine o_ixF (at_row hj) ?_
    refine FF.x_const ?_
    refine FF.OkO.of rfl ?_
    refine FF.x_var (by rfl) ?_
    refine FF.x_var (by rfl) ?_
    try dsimp only [List.set_cons_zero, List.set_cons_succ]
    refine o_setF (j := j) (by rw [List.length_map]; exact ixN_at hj) ?_
    rw [show (ms.map D.int).set j (.int (ms.getD j 0 + 1)) = (ms.set j (ms.getD j 0 + 1)).map D.int by rw [List.map_set]]
    refine FF.nxt_nx ?_
    try dsimp only [List.set_cons_zero, List.set_cons_succ]
    refine FF.x_nil ?_
    try dsimp only [List.set_cons_zero, List.set_cons_succ]
    refine ⟨ms.set j (ms.getD j 0 + 1), _, _, _, rfl, rfl, ok, by rw [List.length_set]; exact ml, fun m hm => ?_, by rw [set_sum hj, sm]; omega⟩
    rcases List.mem_or_eq_of_mem_set hm with h | h
    · exact mn m h
    · have := mn (ms.getD j 0) (by rw [List.getD_eq_getElem?_getD, List.getElem?_eq_getElem hj]; exact List.getElem_mem _)
      omega
  · rintro st h ⟨ms, d4, d5, s, rfl, rfl, ok, ml, mn, sm⟩
    rw [rangeL_len] at sm
    refine ⟨rfl, ?_⟩
    refine FF.nxt_nx ?_
    try dsimp only [List.set_cons_zero, List.set_cons_succ]
    refine FF.x_cons ?_
    refine FF.x_ret ?_
    refine FF.x_bi ?_
    refine FF.x_acons ?_
    refine FF.x_var (by rfl) ?_
    refine FF.x_anil ?_
    try dsimp only [List.set_cons_zero, List.set_cons_succ]
    refine o_tupF ?_
    refine FF.nxt_rt ?_
    try dsimp only [List.set_cons_zero, List.set_cons_succ]
    refine FF.end_rt ?_
    try dsimp only [List.set_cons_zero, List.set_cons_succ]
    exact ⟨s, [.lst (ms.map .int)], rfl, ok, row_pure ms, ms, rfl, ml, mn, by omega⟩
/-- the whole of a row, by the law's own -/
theorem lrow_ok {φ : Fn} (hu : UpOk (φ 61)) (hw : StepOk (φ 208)) : WholeOk (runDef φ d_q_law_row_whole) whole := by
  intro b ns h hb hr
  refine pure_def rfl rfl ?_ rfl ?_
  · simp [D.pures, book_pure, row_pure]
  have st := step_le hb hr
  refine FF.x_cons ?_
  refine FF.x_set ?_
  refine FF.x_const ?_
  refine FF.OkO.of rfl ?_
  refine FF.nxt_nx ?_
  try dsimp only [List.set_cons_zero, List.set_cons_succ]
  refine FF.x_cons ?_
  refine FF.x_for ?_
  refine FF.x_iex ?_
  refine FF.x_var (by rfl) ?_
  refine FF.OkO.of rfl ?_
  try dsimp only [List.set_cons_zero, List.set_cons_succ]
  refine wp_fold D.int (fun at' z => upI at' (kindAt b z).2 + (kindAt b z).1) (fun at' s h => ∃ d3 : Option D, s = [some (bookD b), some (rowD ns), some (.int at'), d3] ∧ h = []) ns 0 _ _ ⟨_, rfl, rfl⟩ ?_ ?_
  · rintro at' z s h hz ⟨d3, rfl, rfl⟩
    obtain ⟨hk, ek⟩ := kindAt_ok hb (hr.ins z hz)
    refine ⟨rfl, ?_⟩
    refine FF.x_stepL ?_
    refine FF.OkO.of rfl ?_
    refine FF.x_cons ?_
    refine FF.x_set ?_
    refine FF.x_bin ?_
    refine FF.x_call ?_
    refine FF.x_acons ?_
    refine FF.x_var (by rfl) ?_
    refine FF.x_acons ?_
    refine FF.x_ix ?_
    refine FF.x_ix ?_
    refine FF.x_var (by rfl) ?_
    refine FF.x_var (by rfl) ?_
    try dsimp only [List.set_cons_zero, List.set_cons_succ]
    refine o_ixT (ds := b.map kindD) ek ?_
    refine FF.x_const ?_
    refine FF.OkO.of rfl ?_
    refine FF.x_anil ?_
    try dsimp only [List.set_cons_zero, List.set_cons_succ]
    refine (hu _ _ _ hk.a0 hk.a1).mono ?_
    rintro _ rfl
    refine FF.x_ix ?_
    refine FF.x_ix ?_
    refine FF.x_var (by rfl) ?_
    refine FF.x_var (by rfl) ?_
    try dsimp only [List.set_cons_zero, List.set_cons_succ]
    refine o_ixT (ds := b.map kindD) ek ?_
    refine FF.x_const ?_
    refine FF.OkO.of rfl ?_
    refine FF.OkO.of rfl ?_
    refine FF.OkO.of rfl ?_
    refine FF.nxt_nx ?_
    try dsimp only [List.set_cons_zero, List.set_cons_succ]
    refine FF.x_nil ?_
    try dsimp only [List.set_cons_zero, List.set_cons_succ]
    exact ⟨_, rfl, rfl⟩
  · rintro s h ⟨d3, rfl, rfl⟩
    refine ⟨rfl, ?_⟩
    have ef : ∀ (l : List Int) (a : Int), l.foldl (fun at' z => upI at' (kindAt b z).2 + (kindAt b z).1) a = lastE b l a := by
      intro l
      induction l with
      | nil => intro a; rfl
      | cons z l ih => intro a; rw [List.foldl_cons, ih]; rfl
    rw [ef]
    refine FF.nxt_nx ?_
    try dsimp only [List.set_cons_zero, List.set_cons_succ]
    refine FF.x_cons ?_
    refine FF.x_ret ?_
    refine FF.x_call ?_
    refine FF.x_acons ?_
    refine FF.x_var (by rfl) ?_
    refine FF.x_acons ?_
    refine FF.x_call ?_
    refine FF.x_acons ?_
    refine FF.x_var (by rfl) ?_
    refine FF.x_acons ?_
    refine FF.x_var (by rfl) ?_
    refine FF.x_anil ?_
    try dsimp only [List.set_cons_zero, List.set_cons_succ]
    refine (hw b ns _ hb hr).mono ?_
    rintro _ rfl
    refine FF.x_anil ?_
    try dsimp only [List.set_cons_zero, List.set_cons_succ]
    refine (hu _ _ _ st.1 st.2).mono ?_
    rintro _ rfl
    refine FF.nxt_rt ?_
    try dsimp only [List.set_cons_zero, List.set_cons_succ]
    refine FF.end_rt ?_
    try dsimp only [List.set_cons_zero, List.set_cons_succ]
    exact thaw1_pure rfl
/-! ### the law -/
abbrev rep (b : List (Int × Int)) (h : Hq) : Prop := True
theorem repI {i : Int} {h : Hq} {P : D × Hq → Prop} (hi : i.natAbs < 10 ^ 70) (p : P (.str (D.int i).shown, h)) : OkO (biD .repr false [.int i] h) P :=
  o_reprK (k := 70) (by unfold D.Good; exact good_intK hi) (by decide) (by decide) (by unfold D.bulk; decide) (by unfold D.deepn; decide) p
theorem o_mulL1 {z m : Int} {h : Hq} {P : D × Hq → Prop} (h0 : 0 ≤ m) (h1 : m ≤ 100) (p : P (.lst ((List.replicate m.toNat z).map .int), h)) : OkO (binop .Mult false (.lst [.int z]) (.int m) h) P := by
  refine ⟨_, ?_, p⟩
  have e : (List.replicate m.toNat [D.int z]).flatten = (List.replicate m.toNat z).map D.int := by rw [List.flatten_replicate_singleton, List.map_replicate]
  have e2 : (-(2 ^ 63) ≤ m ∧ m < 2 ^ 63 ∧ lineOk ([D.int z].length * m.toNat) = true) := ⟨by omega, by omega, by unfold lineOk; exact decide_eq_true (by show 1 * m.toNat ≤ _; omega)⟩
  show (if -(2 ^ 63) ≤ m ∧ m < 2 ^ 63 ∧ lineOk ([D.int z].length * m.toNat) = true then mkL false (List.replicate m.toNat [D.int z]).flatten h else none) = _
  rw [if_pos e2, e]
  unfold mkL
  rw [if_pos (by unfold lineOk; exact decide_eq_true (by rw [List.length_map, List.length_replicate]; omega))]
  rfl
theorem o_addL {a c : List Int} {h : Hq} {P : D × Hq → Prop} (hl : a.length + c.length ≤ 16777216) (p : P (.lst ((a ++ c).map .int), h)) : OkO (binop .Add false (.lst (a.map .int)) (.lst (c.map .int)) h) P := by
  refine ⟨_, ?_, p⟩
  have l1 : lineOk ((a.map D.int).length + (c.map D.int).length) = true := by unfold lineOk; exact decide_eq_true (by rw [List.length_map, List.length_map]; exact hl)
  have l2 : lineOk (a.map D.int ++ c.map D.int).length = true := by rw [List.length_append]; exact l1
  show (if lineOk ((a.map D.int).length + (c.map D.int).length) = true then mkL false (a.map D.int ++ c.map D.int) h else none) = _
  rw [if_pos l1]
  unfold mkL
  rw [if_pos l2, List.map_append]
  rfl
theorem ints_pureT (ms : List Int) : D.pures (ms.map D.int) = true := pures_map ms fun _ _ => rfl
def unI : D → Int
  | .int z => z
  | _ => 0
theorem perm_map_inv {ds : List D} {ns : List Int} (h : ds.Perm (ns.map D.int)) : ∃ ms : List Int, ds = ms.map D.int ∧ ms.Perm ns := by
  refine ⟨ds.map unI, ?_, ?_⟩
  · rw [List.map_map]
    conv => lhs; rw [← List.map_id ds]
    refine List.map_congr_left fun d hd => ?_
    obtain ⟨z, _, rfl⟩ := List.mem_map.mp (h.mem_iff.mp hd)
    rfl
  · have := h.map unI
    rw [List.map_map, show unI ∘ D.int = id from rfl, List.map_id] at this
    exact this
theorem mixI {f : List D → Hq → R (D × Hq)} (hm : FMixedOk deckF f) (ns : List Int) (hl : ns.length ≤ 1000) (s : deckF.S) (rest : Hq) (ok : deckF.ok s) (u : FUnd deckF rest) :
    Wp (f [.ref deckF.root, .lst (ns.map .int)] (deckF.h s rest)) fun p => ∃ s', p.2 = deckF.h s' rest ∧ deckF.ok s' ∧ ∃ ms : List Int, p.1 = .lst (ms.map .int) ∧ ms.Perm ns := by
  refine (hm (.lst (ns.map .int)) (ns.map .int) s rest ok u rfl (by rw [List.length_map]; exact hl) (ints_pureT ns) (plains_map fun _ _ => rfl) (Nat.le_trans (deepns_map (f := D.int) (c := 0) (xs := ns) fun _ _ => by simp [D.deepn]) (by decide))).mono ?_
  rintro p ⟨s', e, ok', ds, e2, pm⟩
  obtain ⟨ms, e3, pm2⟩ := perm_map_inv pm
  exact ⟨s', e, ok', ms, by rw [e2, e3], pm2⟩
theorem rng_snoc (ms : List Int) (k : Nat) : rowO ((List.range (k + 1)).map fun j : Nat => (j : Int)) ms = rowO ((List.range k).map fun j : Nat => (j : Int)) ms ++ List.replicate (numAt ms (k : Int)).toNat (k : Int) := by
  unfold rowO
  rw [List.range_succ, List.map_append, List.flatMap_append]
  congr 1
  simp
theorem rowO_len (ms : List Int) : ∀ os : List Int, (∀ z ∈ os, numAt ms z ≤ 6) → (rowO os ms).length ≤ 6 * os.length
  | [], _ => Nat.le_refl 0
  | z :: os, h => by
    rw [rowO, List.flatMap_cons, List.length_append, List.length_replicate, List.length_cons]
    have := rowO_len ms os fun z hz => h z (List.mem_cons_of_mem _ hz)
    unfold rowO at this
    have := h z List.mem_cons_self
    omega
abbrev lb : Sms := (d_law.body.nth 1).blk
theorem body_ok {φ : Fn} (hd : FDrawOk deckF (φ 53)) (hp : FPickOk deckF (φ 54)) (h57 : FMixedOk deckF (φ 57)) (h60 : PairOk (φ 60)) (h65 : PairOk (φ 65)) (h207 : RecDOk (φ 207)) (h209 : LeastKOk (φ 209)) (h48 : DueOk (φ 48)) (h210 : WholeOk (φ 210) whole) (h12 : WholeOk (φ 12) whole) {b : List (Int × Int)} (b0 : 0 < b.length) (b6 : b.length ≤ 6) (hk : ∀ k ∈ b, Kind k)
    {r : DeckS} (ok : deckF.ok r) {d0 d2 d4 d5 d6 d7 d8 d9 d10 d11 d12 : Option D} :
    Wp (exB φ (lb.drop 1) [d0, some (.ref deckF.root), d2, some (bookD b), d4, d5, d6, d7, d8, d9, d10, d11, d12] (deckF.h r [])) fun f => ∃ (d3 d4 d5 d6 d7 d8 d9 d10 d11 d12 : Option D) (r : DeckS), f = .nx [d0, some (.ref deckF.root), d2, d3, d4, d5, d6, d7, d8, d9, d10, d11, d12] (deckF.h r []) ∧ deckF.ok r := by
  have hb : BookOk b := ⟨by omega, hk⟩
  have u : FUnd deckF ([] : Hq) := rfl
  refine FF.x_cons ?_
  refine FF.x_set ?_
  refine FF.x_cmp ?_
  refine FF.x_call ?_
  refine FF.x_acons ?_
  refine FF.x_var (by rfl) ?_
  refine FF.x_anil ?_
  try dsimp only [List.set_cons_zero, List.set_cons_succ]
  refine (h65 b _ hb).mono ?_
  rintro _ rfl
  have T : ∀ lv : Bool, (lv = true → pairI b = none) → Wp (exB φ (lb.drop 3) [d0, some (.ref deckF.root), d2, some (bookD b), some (.bl lv), d5, d6, d7, d8, d9, d10, d11, d12] (deckF.h r [])) fun f => ∃ (d3 d4 d5 d6 d7 d8 d9 d10 d11 d12 : Option D) (r : DeckS), f = .nx [d0, some (.ref deckF.root), d2, d3, d4, d5, d6, d7, d8, d9, d10, d11, d12] (deckF.h r []) ∧ deckF.ok r := by
    intro lv hlv
    refine FF.x_cons ?_
    refine FF.x_set ?_
    refine FF.x_call ?_
    refine FF.x_acons ?_
    refine FF.x_var (by rfl) ?_
    refine FF.x_acons ?_
    refine FF.x_var (by rfl) ?_
    refine FF.x_acons ?_
    refine FF.x_call ?_
    refine FF.x_acons ?_
    refine FF.x_var (by rfl) ?_
    refine FF.x_acons ?_
    refine FF.x_lst ?_
    refine FF.x_acons ?_
    refine FF.x_const ?_
    refine FF.x_acons ?_
    refine FF.x_const ?_
    refine FF.x_acons ?_
    refine FF.x_const ?_
    refine FF.x_acons ?_
    refine FF.x_const ?_
    refine FF.x_acons ?_
    refine FF.x_const ?_
    refine FF.x_acons ?_
    refine FF.x_const ?_
    refine FF.x_anil ?_
    refine FF.OkO.of rfl ?_
    refine FF.x_anil ?_
    try dsimp only [List.set_cons_zero, List.set_cons_succ]
    refine (hp [.int 1, .int 2, .int 3, .int 4, .int 5, .int 6] (by simp) (by decide) rfl r [] ok u).mono ?_
    rintro ⟨x1, _⟩ ⟨r, e1, ok, e2⟩
    dsimp only at e1 e2
    subst e1
    obtain ⟨many, ex, m0, m6⟩ : ∃ m : Nat, x1 = D.int (m : Nat) ∧ 0 < m ∧ m ≤ 6 := by
      simp only [List.mem_cons, List.not_mem_nil, or_false] at e2
      rcases e2 with rfl | rfl | rfl | rfl | rfl | rfl
      · exact ⟨1, rfl, by decide, by decide⟩
      · exact ⟨2, rfl, by decide, by decide⟩
      · exact ⟨3, rfl, by decide, by decide⟩
      · exact ⟨4, rfl, by decide, by decide⟩
      · exact ⟨5, rfl, by decide, by decide⟩
      · exact ⟨6, rfl, by decide, by decide⟩
    subst ex
    refine FF.x_anil ?_
    try dsimp only [List.set_cons_zero, List.set_cons_succ]
    refine (h207 b many hb b0 b6 m6 _ _ ok u).mono ?_
    rintro ⟨_, _⟩ ⟨r, e1, ok, ms, e2, ml, mn, sm⟩
    dsimp only at e1 e2
    subst e1; subst e2
    have hm : RecOk b ms := by
      refine ⟨ml, ?_, fun m h => ⟨mn m h, ?_⟩⟩
      · refine Classical.byContradiction fun hno => ?_
        have : ∀ m ∈ ms, m = 0 := fun m h => by
          have h1 := mn m h
          have h2 : ¬ 0 < m := fun z => hno ⟨m, h, z⟩
          omega
        have e : ms = List.replicate ms.length 0 := List.eq_replicate_iff.mpr ⟨rfl, this⟩
        rw [e, sum_rep0] at sm
        omega
      · have := sum_ge mn h
        unfold T30
        omega
    have hs : ms.sum ≤ 6 := by omega
    refine FF.OkO.of rfl ?_
    refine FF.nxt_nx ?_
    try dsimp only [List.set_cons_zero, List.set_cons_succ]
    refine FF.x_cons ?_
    refine FF.x_set ?_
    refine FF.x_call ?_
    refine FF.x_acons ?_
    refine FF.x_var (by rfl) ?_
    refine FF.x_acons ?_
    refine FF.x_var (by rfl) ?_
    refine FF.x_anil ?_
    try dsimp only [List.set_cons_zero, List.set_cons_succ]
    refine (h209 b ms _ hb b6 hm hs).mono ?_
    rintro _ rfl
    refine FF.OkO.of rfl ?_
    refine FF.nxt_nx ?_
    try dsimp only [List.set_cons_zero, List.set_cons_succ]
    refine FF.x_cons ?_
    refine FF.x_ite ?_
    refine FF.x_and ?_
    refine FF.x_var (by rfl) ?_
    refine FF.OkO.of rfl ?_
    try dsimp only [List.set_cons_zero, List.set_cons_succ]
    have db := due_bd hb hm
    have T2 : ∀ (r : DeckS) (d7 d8 d9 d10 d11 d12 : Option D), deckF.ok r → Wp (exB φ (lb.drop 6) [d0, some (.ref deckF.root), d2, some (bookD b), some (.bl lv), some (rowD ms), some (.int (leastW b ms)), d7, d8, d9, d10, d11, d12] (deckF.h r [])) fun f => ∃ (d3 d4 d5 d6 d7 d8 d9 d10 d11 d12 : Option D) (r : DeckS), f = .nx [d0, some (.ref deckF.root), d2, d3, d4, d5, d6, d7, d8, d9, d10, d11, d12] (deckF.h r []) ∧ deckF.ok r := by
      intro r d7 d8 d9 d10 d11 d12 ok
      refine FF.x_cons ?_
      refine FF.x_set ?_
      refine FF.x_lst ?_
      refine FF.x_anil ?_
      refine FF.OkO.of rfl ?_
      refine FF.OkO.of rfl ?_
      refine FF.nxt_nx ?_
      try dsimp only [List.set_cons_zero, List.set_cons_succ]
      refine FF.x_cons ?_
      refine FF.x_for ?_
      refine FF.x_enum ?_
      refine FF.x_var (by rfl) ?_
      refine FF.OkO.of rfl ?_
      try dsimp only [List.set_cons_zero, List.set_cons_succ]
      rw [show enumL (ms.map D.int) = _ from enumL_map D.int ms]
      have zl : ms.zipIdx.length = b.length := by rw [List.length_zipIdx]; exact ml
      refine wp_loopF (fun k s h => ∃ (d8 d9 : Option D), s = [d0, some (.ref deckF.root), d2, some (bookD b), some (.bl lv), some (rowD ms), some (.int (leastW b ms)), some (.lst ((rowO (rngI k) ms).map .int)), d8, d9, d10, d11, d12] ∧ h = deckF.h r []) _ 0 _ _ ⟨_, _, rfl, rfl⟩ ?_ ?_
      · rintro k d s h e ⟨d8, d9, rfl, rfl⟩
        rw [List.getElem?_map] at e
        obtain ⟨p, hp, rfl⟩ := Option.map_eq_some_iff.mp e
        have hkl : k < b.length := by rw [← zl]; exact (List.getElem?_eq_some_iff.mp hp).1
        have ep : p = (numAt ms (k : Int), k) := by
          rw [List.getElem?_zipIdx] at hp
          obtain ⟨m, hm1, hm2⟩ := Option.map_eq_some_iff.mp hp
          rw [← hm2]
          unfold numAt
          rw [Int.toNat_natCast, List.getD_eq_getElem?_getD, hm1, Nat.zero_add]; rfl
        subst ep
        rw [Nat.zero_add]
        refine ⟨rfl, ?_⟩
        have n0 : 0 ≤ numAt ms (k : Int) ∧ numAt ms (k : Int) ≤ 6 := by
          have hin : numAt ms (k : Int) ∈ ms := by
            unfold numAt
            rw [Int.toNat_natCast, List.getD_eq_getElem?_getD, List.getElem?_eq_getElem (by omega)]
            exact List.getElem_mem _
          have := sum_ge mn hin
          have := mn _ hin
          omega
        refine FF.x_stepL ?_
        refine FF.OkO.of rfl ?_
        refine FF.x_cons ?_
        refine FF.x_set ?_
        refine FF.x_bin ?_
        refine FF.x_var (by rfl) ?_
        refine FF.x_bin ?_
        refine FF.x_lst ?_
        refine FF.x_acons ?_
        refine FF.x_var (by rfl) ?_
        refine FF.x_anil ?_
        refine FF.OkO.of rfl ?_
        refine FF.x_var (by rfl) ?_
        try dsimp only [List.set_cons_zero, List.set_cons_succ]
        refine o_mulL1 n0.1 (by omega) ?_
        try dsimp only [List.set_cons_zero, List.set_cons_succ]
        refine o_addL (by
          have h1 := rowO_len ms (rngI k) fun z hz => by
            obtain ⟨j, hj, rfl⟩ := List.mem_map.mp hz
            have hj := List.mem_range.mp hj
            have hin : numAt ms (j : Int) ∈ ms := by
              unfold numAt
              rw [Int.toNat_natCast, List.getD_eq_getElem?_getD, List.getElem?_eq_getElem (by omega)]
              exact List.getElem_mem _
            have := sum_ge mn hin
            omega
          rw [List.length_map, List.length_range] at h1
          rw [List.length_replicate]
          omega) ?_
        refine FF.OkO.of rfl ?_
        refine FF.nxt_nx ?_
        try dsimp only [List.set_cons_zero, List.set_cons_succ]
        refine FF.x_nil ?_
        try dsimp only [List.set_cons_zero, List.set_cons_succ]
        rw [← rng_snoc]
        exact ⟨_, _, rfl, rfl⟩
      · rintro s h ⟨d8, d9, rfl, rfl⟩
        rw [Nat.zero_add, List.length_map, zl]
        refine ⟨rfl, ?_⟩
        have hR : RowOk b (rowO (rngI b.length) ms) := row_rowOk hm (List.Perm.refl _) (by omega)
        have hN : numI b (rowO (rngI b.length) ms) = ms := rowO_num hm (List.Perm.refl _)
        refine FF.nxt_nx ?_
        try dsimp only [List.set_cons_zero, List.set_cons_succ]
        refine FF.x_cons ?_
        refine FF.x_for ?_
        refine FF.x_range1 ?_
        refine FF.x_const ?_
        refine FF.o_rng1 (by decide) (by decide) ?_
        try dsimp only [List.set_cons_zero, List.set_cons_succ]
        refine wp_loopF (fun k s h => ∃ (d10 d11 d12 : Option D) (r : DeckS), s = [d0, some (.ref deckF.root), d2, some (bookD b), some (.bl lv), some (rowD ms), some (.int (leastW b ms)), some (.lst ((rowO (rngI b.length) ms).map .int)), d8, d9, d10, d11, d12] ∧ h = deckF.h r [] ∧ deckF.ok r) _ 0 _ _ ⟨_, _, _, r, rfl, rfl, ok⟩ ?_ ?_
        · rintro k d s h e ⟨d10, d11, d12, r, rfl, rfl, ok⟩
          refine ⟨rfl, ?_⟩
          refine FF.x_stepL ?_
          refine FF.OkO.of rfl ?_
          refine FF.x_cons ?_
          refine FF.x_set ?_
          refine FF.x_bi ?_
          refine FF.x_acons ?_
          refine FF.x_call ?_
          refine FF.x_acons ?_
          refine FF.x_var (by rfl) ?_
          refine FF.x_acons ?_
          refine FF.x_var (by rfl) ?_
          refine FF.x_anil ?_
          try dsimp only [List.set_cons_zero, List.set_cons_succ]
          refine (mixI h57 _ (by have := hR.l1; omega) r [] ok u).mono ?_
          rintro ⟨_, _⟩ ⟨r, e1, ok, row, e2, pm⟩
          dsimp only at e1 e2
          subst e1; subst e2
          have hr : RowOk b row := ⟨by rw [pm.length_eq]; exact hR.l0, by rw [pm.length_eq]; exact hR.l1, fun z hz => hR.ins z (pm.mem_iff.mp hz)⟩
          have hn : numI b row = ms := (numI_perm pm b).trans hN
          have wb := whole_bd hb hr
          have hw : leastW b ms ≤ whole b row := by
            have := leastW_le hb hr (by rw [hn]; exact hm)
            rw [hn] at this
            exact this
          have wn : (whole b row).natAbs < 10 ^ 70 := by
            have : (10 : Nat) ^ 70 = 10000000000000000000000000000000000000000000000000000000000000000000000 := by decide
            omega
          refine FF.x_anil ?_
          refine FF.OkO.of rfl ?_
          refine FF.OkO.of rfl ?_
          refine FF.nxt_nx ?_
          try dsimp only [List.set_cons_zero, List.set_cons_succ]
          refine FF.x_cons ?_
          refine FF.x_set ?_
          refine FF.x_call ?_
          refine FF.x_acons ?_
          refine FF.x_var (by rfl) ?_
          refine FF.x_acons ?_
          refine FF.x_var (by rfl) ?_
          refine FF.x_anil ?_
          try dsimp only [List.set_cons_zero, List.set_cons_succ]
          refine (h210 b row _ hb hr).mono ?_
          rintro _ rfl
          refine FF.OkO.of rfl ?_
          refine FF.nxt_nx ?_
          try dsimp only [List.set_cons_zero, List.set_cons_succ]
          refine FF.x_cons ?_
          refine FF.x_ite ?_
          refine FF.x_or ?_
          refine FF.x_cmp ?_
          refine FF.x_bi ?_
          refine FF.x_acons ?_
          refine FF.x_call ?_
          refine FF.x_acons ?_
          refine FF.x_var (by rfl) ?_
          refine FF.x_acons ?_
          refine FF.x_var (by rfl) ?_
          refine FF.x_anil ?_
          try dsimp only [List.set_cons_zero, List.set_cons_succ]
          refine (h12 b row _ hb hr).mono ?_
          rintro _ rfl
          refine FF.x_anil ?_
          try dsimp only [List.set_cons_zero, List.set_cons_succ]
          refine repI wn ?_
          refine FF.x_bi ?_
          refine FF.x_acons ?_
          refine FF.x_var (by rfl) ?_
          refine FF.x_anil ?_
          try dsimp only [List.set_cons_zero, List.set_cons_succ]
          refine repI wn ?_
          refine FF.OkO.of rfl ?_
          refine FF.OkO.of rfl ?_
          try dsimp only [List.set_cons_zero, List.set_cons_succ]
          rw [beqS]
          refine FF.Cd.ff ?_
          refine FF.x_cmp ?_
          refine FF.x_var (by rfl) ?_
          refine FF.x_var (by rfl) ?_
          refine FF.OkO.of rfl ?_
          refine FF.OkO.of rfl ?_
          try dsimp only [List.set_cons_zero, List.set_cons_succ]
          rw [show decide (whole b row < leastW b ms) = false from decide_eq_false (by omega)]
          refine FF.Cd.ff ?_
          refine FF.x_nil ?_
          refine FF.nxt_nx ?_
          try dsimp only [List.set_cons_zero, List.set_cons_succ]
          refine FF.x_cons ?_
          refine FF.x_ite ?_
          refine FF.x_and ?_
          refine FF.x_var (by rfl) ?_
          refine FF.OkO.of rfl ?_
          try dsimp only [List.set_cons_zero, List.set_cons_succ]
          cases lv with
          | true =>
            have ew := leastW_level hb b0 (hlv rfl) hm (by omega)
            refine FF.Cd.tt ?_
            refine FF.x_cmp ?_
            refine FF.x_call ?_
            refine FF.x_acons ?_
            refine FF.x_var (by rfl) ?_
            refine FF.x_acons ?_
            refine FF.x_var (by rfl) ?_
            refine FF.x_anil ?_
            try dsimp only [List.set_cons_zero, List.set_cons_succ]
            refine (h48 b ms _ hb hm).mono ?_
            rintro _ rfl
            refine FF.x_var (by rfl) ?_
            refine FF.OkO.of rfl ?_
            refine FF.OkO.of rfl ?_
            try dsimp only [List.set_cons_zero, List.set_cons_succ]
            rw [show decide (whole b row < dueI b ms) = false from decide_eq_false (by omega)]
            refine FF.Cd.ff ?_
            refine FF.x_nil ?_
            refine FF.nxt_nx ?_
            try dsimp only [List.set_cons_zero, List.set_cons_succ]
            refine FF.x_nil ?_
            try dsimp only [List.set_cons_zero, List.set_cons_succ]
            exact ⟨_, _, _, r, rfl, rfl, ok⟩
          | false =>
            refine FF.Cd.ff ?_
            refine FF.OkO.of rfl ?_
            refine FF.Cd.ff ?_
            refine FF.x_nil ?_
            refine FF.nxt_nx ?_
            try dsimp only [List.set_cons_zero, List.set_cons_succ]
            refine FF.x_nil ?_
            try dsimp only [List.set_cons_zero, List.set_cons_succ]
            exact ⟨_, _, _, r, rfl, rfl, ok⟩
        · rintro s h ⟨d10, d11, d12, r, rfl, rfl, ok⟩
          refine ⟨rfl, ?_⟩
          refine FF.nxt_nx ?_
          try dsimp only [List.set_cons_zero, List.set_cons_succ]
          refine FF.x_nil ?_
          try dsimp only [List.set_cons_zero, List.set_cons_succ]
          exact ⟨_, _, _, _, _, _, _, _, _, _, r, rfl, ok⟩
    cases lv with
    | true =>
      have ew := leastW_level hb b0 (hlv rfl) hm (by omega)
      refine FF.Cd.tt ?_
      refine FF.x_cmp ?_
      refine FF.x_bi ?_
      refine FF.x_acons ?_
      refine FF.x_call ?_
      refine FF.x_acons ?_
      refine FF.x_var (by rfl) ?_
      refine FF.x_acons ?_
      refine FF.x_var (by rfl) ?_
      refine FF.x_anil ?_
      try dsimp only [List.set_cons_zero, List.set_cons_succ]
      refine (h48 b ms _ hb hm).mono ?_
      rintro _ rfl
      refine FF.x_anil ?_
      try dsimp only [List.set_cons_zero, List.set_cons_succ]
      refine repI db.2 ?_
      refine FF.x_bi ?_
      refine FF.x_acons ?_
      refine FF.x_var (by rfl) ?_
      refine FF.x_anil ?_
      try dsimp only [List.set_cons_zero, List.set_cons_succ]
      rw [ew]
      refine repI db.2 ?_
      refine FF.OkO.of rfl ?_
      refine FF.OkO.of rfl ?_
      try dsimp only [List.set_cons_zero, List.set_cons_succ]
      rw [beqS]
      rw [← ew]
      refine FF.Cd.ff ?_
      refine FF.x_nil ?_
      refine FF.Wp.mono ((T2 r d7 d8 d9 d10 d11 d12 ok)) ?_
      rintro _ q
      exact q
    | false =>
      refine FF.Cd.ff ?_
      refine FF.OkO.of rfl ?_
      refine FF.Cd.ff ?_
      refine FF.x_nil ?_
      refine FF.Wp.mono ((T2 r d7 d8 d9 d10 d11 d12 ok)) ?_
      rintro _ q
      exact q
  cases ep : pairI b with
  | none =>
    refine FF.x_const ?_
    refine FF.OkO.of rfl ?_
    refine FF.OkO.of rfl ?_
    refine FF.nxt_nx ?_
    try dsimp only [List.set_cons_zero, List.set_cons_succ]
    refine FF.x_cons ?_
    refine FF.x_ite ?_
    refine FF.x_cmp ?_
    refine FF.x_cmp ?_
    refine FF.x_call ?_
    refine FF.x_acons ?_
    refine FF.x_var (by rfl) ?_
    refine FF.x_anil ?_
    try dsimp only [List.set_cons_zero, List.set_cons_succ]
    refine (h60 b _ hb).mono ?_
    rintro _ rfl
    rw [ep]
    refine FF.x_const ?_
    refine FF.OkO.of rfl ?_
    refine FF.x_var (by rfl) ?_
    refine FF.OkO.of rfl ?_
    refine FF.OkO.of rfl ?_
    refine FF.Cd.ff ?_
    refine FF.x_nil ?_
    refine FF.Wp.mono ((T true fun _ => ep)) ?_
    rintro _ q
    exact q
  | some v =>
    obtain ⟨x, y⟩ := v
    refine FF.x_const ?_
    refine FF.OkO.of rfl ?_
    refine FF.OkO.of rfl ?_
    refine FF.nxt_nx ?_
    try dsimp only [List.set_cons_zero, List.set_cons_succ]
    refine FF.x_cons ?_
    refine FF.x_ite ?_
    refine FF.x_cmp ?_
    refine FF.x_cmp ?_
    refine FF.x_call ?_
    refine FF.x_acons ?_
    refine FF.x_var (by rfl) ?_
    refine FF.x_anil ?_
    try dsimp only [List.set_cons_zero, List.set_cons_succ]
    refine (h60 b _ hb).mono ?_
    rintro _ rfl
    rw [ep]
    refine FF.x_const ?_
    refine FF.OkO.of rfl ?_
    refine FF.x_var (by rfl) ?_
    refine FF.OkO.of rfl ?_
    refine FF.OkO.of rfl ?_
    refine FF.Cd.ff ?_
    refine FF.x_nil ?_
    refine FF.Wp.mono ((T false fun z => nomatch z)) ?_
    rintro _ q
    exact q
theorem law_ok {φ : Fn} (hre : FDeckOk deckF (φ 206)) (hd : FDrawOk deckF (φ 53)) (hp : FPickOk deckF (φ 54)) (h56 : LevelDOk (φ 56)) (h57 : FMixedOk deckF (φ 57)) (h58 : BookDOk (φ 58)) (h60 : PairOk (φ 60)) (h65 : PairOk (φ 65)) (h207 : RecDOk (φ 207)) (h209 : LeastKOk (φ 209)) (h48 : DueOk (φ 48)) (h210 : WholeOk (φ 210) whole) (h12 : WholeOk (φ 12) whole) {ns : List Int} (hl : ns.length ≤ 63) :
    Wp (runDef φ d_law [.scr ns] []) fun p => p = (.bl true, []) := by
  refine pure_def rfl rfl rfl rfl ?_
  have u : FUnd deckF ([] : Hq) := rfl
  refine FF.x_cons ?_
  refine FF.x_set ?_
  refine FF.x_call ?_
  refine FF.x_acons ?_
  refine FF.x_var (by rfl) ?_
  refine FF.x_anil ?_
  try dsimp only [List.set_cons_zero, List.set_cons_succ]
  refine (hre ns hl).mono ?_
  rintro ⟨_, _⟩ ⟨e1, s, e2, ok⟩
  dsimp only at e1 e2
  subst e1; subst e2
  refine FF.OkO.of rfl ?_
  refine FF.nxt_nx ?_
  try dsimp only [List.set_cons_zero, List.set_cons_succ]
  refine FF.x_cons ?_
  refine FF.x_for ?_
  refine FF.x_range1 ?_
  refine FF.x_const ?_
  refine FF.o_rng1 (by decide) (by decide) ?_
  try dsimp only [List.set_cons_zero, List.set_cons_succ]
  refine wp_loopF (fun k s h => ∃ (d2 d3 d4 d5 d6 d7 d8 d9 d10 d11 d12 : Option D) (r : DeckS), s = [some (.scr ns), some (.ref deckF.root), d2, d3, d4, d5, d6, d7, d8, d9, d10, d11, d12] ∧ h = deckF.h r [] ∧ deckF.ok r) _ 0 _ _ ⟨_, _, _, _, _, _, _, _, _, _, _, s, rfl, rfl, ok⟩ ?_ ?_
  · rintro i d s h e ⟨d2, d3, d4, d5, d6, d7, d8, d9, d10, d11, d12, r, rfl, rfl, ok⟩
    obtain ⟨rfl, hi⟩ := rangeL_get e
    refine ⟨rfl, ?_⟩
    refine FF.x_stepL ?_
    refine FF.OkO.of rfl ?_
    refine FF.x_cons ?_
    refine FF.x_set ?_
    refine FF.x_ife ?_
    refine FF.x_cmp ?_
    refine FF.x_var (by rfl) ?_
    refine FF.x_const ?_
    refine FF.OkO.of rfl ?_
    refine FF.OkO.of rfl ?_
    try dsimp only [List.set_cons_zero, List.set_cons_succ]
    refine ⟨fun c => ?_, fun c => ?_⟩
    · refine FF.x_ix ?_
      refine FF.x_call ?_
      refine FF.x_acons ?_
      refine FF.x_var (by rfl) ?_
      refine FF.x_acons ?_
      refine FF.x_bin ?_
      refine FF.x_const ?_
      refine FF.x_call ?_
      refine FF.x_acons ?_
      refine FF.x_var (by rfl) ?_
      refine FF.x_acons ?_
      refine FF.x_const ?_
      refine FF.x_anil ?_
      try dsimp only [List.set_cons_zero, List.set_cons_succ]
      refine (fdraw hd (many := 6) (by decide) (by decide +kernel) _ _ ok u).mono ?_
      rintro ⟨_, _⟩ ⟨_, ee, ok, z, ee2, z0, z1⟩
      dsimp only at ee ee2
      subst ee; subst ee2
      refine FF.OkO.of rfl ?_
      refine FF.x_anil ?_
      try dsimp only [List.set_cons_zero, List.set_cons_succ]
      rw [show (1 + z) = ((1 + z.toNat : Nat) : Int) by omega]
      refine (h56 (1 + z.toNat) (by omega) _ _ ok u).mono ?_
      rintro ⟨_, _⟩ ⟨r, e1, ok, b, unit, e2, bl, hk, _, _⟩
      dsimp only at e1 e2
      subst e1; subst e2
      refine FF.x_const ?_
      refine FF.OkO.of rfl ?_
      refine FF.OkO.of rfl ?_
      refine FF.Wp.mono ((body_ok hd hp h57 h60 h65 h207 h209 h48 h210 h12 (b := b) (by omega) (by omega) hk ok)) ?_
      rintro _ ⟨d3, d4, d5, d6, d7, d8, d9, d10, d11, d12, r, rfl, ok⟩
      exact ⟨_, _, _, _, _, _, _, _, _, _, _, r, rfl, rfl, ok⟩
    · refine FF.x_call ?_
      refine FF.x_acons ?_
      refine FF.x_var (by rfl) ?_
      refine FF.x_acons ?_
      refine FF.x_const ?_
      refine FF.x_anil ?_
      try dsimp only [List.set_cons_zero, List.set_cons_succ]
      refine (h58 3 (by decide) (by decide) _ _ ok u).mono ?_
      rintro ⟨_, _⟩ ⟨r, e1, ok, b, e2, b0, b1, hk⟩
      dsimp only at e1 e2
      subst e1; subst e2
      refine FF.OkO.of rfl ?_
      refine FF.Wp.mono ((body_ok hd hp h57 h60 h65 h207 h209 h48 h210 h12 (b := b) b0 b1 hk ok)) ?_
      rintro _ ⟨d3, d4, d5, d6, d7, d8, d9, d10, d11, d12, r, rfl, ok⟩
      exact ⟨_, _, _, _, _, _, _, _, _, _, _, r, rfl, rfl, ok⟩
  · rintro s h ⟨d2, d3, d4, d5, d6, d7, d8, d9, d10, d11, d12, r, rfl, rfl, ok⟩
    refine ⟨rfl, ?_⟩
    refine FF.nxt_nx ?_
    try dsimp only [List.set_cons_zero, List.set_cons_succ]
    refine FF.x_cons ?_
    refine FF.x_ret ?_
    refine FF.x_const ?_
    refine FF.nxt_rt ?_
    try dsimp only [List.set_cons_zero, List.set_cons_succ]
    refine FF.end_rt ?_
    try dsimp only [List.set_cons_zero, List.set_cons_succ]
    exact thaw1_pure rfl
theorem deck_at (n : Nat) : FDeckOk deckF (run tbl (n + 1) 206) := (deck_ok (by decide) (by decide) : FDeckOk deckF (runDef (run tbl n) (deckDef 99015)))
theorem draw_at (n : Nat) : FDrawOk deckF (run tbl (n + 1) 53) := (ddraw_ok : FDrawOk deckF (runDef (run tbl n) R_ddraw))
theorem pick_at (n : Nat) : FPickOk deckF (run tbl (n + 2) 54) := (fpick_ok (draw_at n) : FPickOk deckF (runDef (run tbl (n + 1)) (pickDef 53 "deck" "items")))
theorem kind_at (n : Nat) : KindDOk (run tbl (n + 2) 55) := (kindD_ok (draw_at n) : KindDOk (runDef (run tbl (n + 1)) R_lkind))
theorem level_at (n : Nat) : LevelDOk (run tbl (n + 3) 56) := (levelD_ok (draw_at (n + 1)) (pick_at n) (kind_at n) : LevelDOk (runDef (run tbl (n + 2)) R_llevel))
theorem mixed_at (n : Nat) : FMixedOk deckF (run tbl (n + 2) 57) := (fmixed_ok (draw_at n) : FMixedOk deckF (runDef (run tbl (n + 1)) (mixedDef 53 "deck" "items" "rest" "found")))
theorem just_at (n : Nat) : BookDOk (run tbl (n + 4) 58) := (justD_ok (draw_at (n + 2)) (pick_at (n + 1)) (kind_at (n + 1)) (level_at n) (mixed_at (n + 1)) : BookDOk (runDef (run tbl (n + 3)) R_ljust))
theorem raised_at (n : Nat) : UpOk (run tbl (n + 1) 9) := (raised_ok : UpOk (runDef (run tbl n) R_raised))
theorem room_at (n : Nat) : RoomOk (run tbl (n + 2) 37) := (room_ok (raised_at n) : RoomOk (runDef (run tbl (n + 1)) R_room))
theorem rooms_at (n : Nat) : RoomsOk (run tbl (n + 3) 38) roomI := (rooms_ok (room_at n) : RoomsOk (runDef (run tbl (n + 2)) R_rooms) roomI)
theorem lacks_at (n : Nat) : RoomsOk (run tbl (n + 3) 39) lackI := (lacks_ok (room_at n) : RoomsOk (runDef (run tbl (n + 2)) R_lacks) lackI)
theorem power_at (n : Nat) : PowOk (run tbl (n + 1) 40) := (power_ok : PowOk (runDef (run tbl n) R_power))
theorem lup_at (n : Nat) : UpOk (run tbl (n + 1) 61) := (raised_ok : UpOk (runDef (run tbl n) R_raised))
theorem lroom_at (n : Nat) : RoomOk (run tbl (n + 2) 62) := (lroom_ok (lup_at n) : RoomOk (runDef (run tbl (n + 1)) R_lroom))
theorem llack_at (n : Nat) : LackOk (run tbl (n + 3) 63) := (llack_ok (lroom_at n) : LackOk (runDef (run tbl (n + 2)) R_llack))
theorem lpower_at (n : Nat) : PowOk (run tbl (n + 1) 64) := (power_ok : PowOk (runDef (run tbl n) R_power))
theorem levelE_at (n : Nat) : PairOk (run tbl (n + 4) 60) := (levelE_ok (rooms_at n) (lacks_at n) (power_at (n + 2)) : PairOk (runDef (run tbl (n + 3)) R_levelE))
theorem lpair_at (n : Nat) : PairOk (run tbl (n + 4) 65) := (lpair_ok (lroom_at (n + 1)) (llack_at n) (lpower_at (n + 2)) : PairOk (runDef (run tbl (n + 3)) R_lpair))
theorem wideL_at (n : Nat) : GreatLOk (run tbl (n + 1) 208) := (greatL_ok : GreatLOk (runDef (run tbl n) R_greatest))
theorem wide_at (n : Nat) : StepOk (run tbl (n + 1) 208) := (greatest_ok : StepOk (runDef (run tbl n) R_greatest))
theorem greatL_at (n : Nat) : GreatLOk (run tbl (n + 1) 11) := (greatL_ok : GreatLOk (runDef (run tbl n) R_greatest))
theorem great_at (n : Nat) : StepOk (run tbl (n + 1) 11) := (greatest_ok : StepOk (runDef (run tbl n) R_greatest))
theorem places_at (n : Nat) : PlacesOk (run tbl (n + 1) 42) := (places_ok : PlacesOk (runDef (run tbl n) R_places))
theorem due_at (n : Nat) : DueOk (run tbl (n + 4) 48) := (rwhole_ok (raised_at (n + 2)) (greatL_at (n + 2)) (rooms_at n) (places_at (n + 2)) : DueOk (runDef (run tbl (n + 3)) R_rwhole))
theorem laid_at (n : Nat) : LaidOk (run tbl (n + 2) 10) := (laid_ok (raised_at n) : LaidOk (runDef (run tbl (n + 1)) R_laid))
theorem whole_at (n : Nat) : WholeOk (run tbl (n + 3) 12) whole := (whole_ok (raised_at (n + 1)) (laid_at n) (great_at (n + 1)) : WholeOk (runDef (run tbl (n + 2)) R_roww) whole)
theorem rec_at (n : Nat) : RecDOk (run tbl (n + 2) 207) := (rec_ok (draw_at n) : RecDOk (runDef (run tbl (n + 1)) d_q_law_record))
theorem least_at (n : Nat) : LeastKOk (run tbl (n + 2) 209) := (least_ok (lup_at n) (wideL_at n) : LeastKOk (runDef (run tbl (n + 1)) d_q_law_least))
theorem lrow_at (n : Nat) : WholeOk (run tbl (n + 2) 210) whole := (lrow_ok (lup_at n) (wide_at n) : WholeOk (runDef (run tbl (n + 1)) d_q_law_row_whole) whole)
theorem told : ∀ ns : List Int, ns.length ≤ 63 → (∀ z ∈ ns, Builtin.Int.intBits z ≤ 1048576) → ∃ h', run tbl 5 211 [.scr ns] [] = .ok (.bl true, h') := by
  intro ns hl _
  obtain ⟨p, e, rfl⟩ := law_ok (φ := run tbl 4) (deck_at 3) (draw_at 3) (pick_at 2) (level_at 1) (mixed_at 2) (just_at 0) (levelE_at 0) (lpair_at 0) (rec_at 2) (least_at 2) (due_at 0) (lrow_at 2) (whole_at 1) hl
  have z : run tbl 5 211 = runDef (run tbl 4) d_law := rfl
  rw [z]
  exact ⟨_, e⟩
end FF.k15

open PySem PySem.W PyProof.Rows
set_option maxHeartbeats 0 in
theorem PySem.Challenge.cw_fallingfields_k15_whole_least_wholes_of_holds : PySem.Challenge.rw_fallingfields_k15_whole_least_wholes_of.Holds := by
  w_on; o_law; k_head; (case hw => w_witness2)
  k_fill
  refine FF.law_walk (l := PySem.Challenge.rw_fallingfields_k15_whole_least_wholes_of) (n := 63) (k := 5) (x := "script") (fx := FF.run FF.k15.tbl 5 211) rfl (by decide) rfl ⟨rfl, by decide, by decide⟩ FF.k15.told (fun w h Y => PySem.W.kIn_of Y) (fun _ => by kernel_rfl) ?F
  case F =>
    intro w mg fa h KX G hmg
    refine' FF.k15.head_mk KX G hmg ?a0 ?l0 ?c0 ?k0 ?a1 ?l1 ?c1 ?k1 ?a2 ?l2 ?c2 ?k2 ?a3 ?l3 ?c3 ?k3 ?a4 ?l4 ?c4 ?k4 ?a5 ?l5 ?c5 ?k5 ?a6 ?l6 ?c6 ?k6 ?a7 ?l7 ?c7 ?k7 ?a8 ?l8 ?c8 ?k8 ?a9 ?l9 ?c9 ?k9 ?a10 ?l10 ?c10 ?k10 ?a11 ?l11 ?c11 ?k11 ?a12 ?l12 ?c12 ?k12 ?a13 ?l13 ?c13 ?k13 ?a14 ?l14 ?c14 ?k14 ?a15 ?l15 ?c15 ?k15 ?a16 ?l16 ?c16 ?k16 ?a17 ?l17 ?c17 ?k17 ?a18 ?l18 ?c18 ?k18 ?a19 ?l19 ?c19 ?k19 ?a20 ?l20 ?c20 ?k20 ?a21 ?l21 ?c21 ?k21 ?a22 ?l22 ?c22 ?k22 ?a23 ?l23 ?c23 ?k23 ?a24 ?l24 ?c24 ?k24 ?a25 ?l25 ?c25 ?k25 ?a26 ?l26 ?c26 ?k26 ?a27 ?l27 ?c27 ?k27 ?z0 ?z1 ?z2 ?z3 ?z4 ?z5 ?z6 ?z7 ?z8 ?z9 ?z10
    (case a0 => k_is)
    (case l0 => k_is)
    (case c0 => k_is)
    (case k0 => k_is)
    (case a1 => k_is)
    (case l1 => k_is)
    (case c1 => k_is)
    (case k1 => k_is)
    (case a2 => k_is)
    (case l2 => k_is)
    (case c2 => k_is)
    (case k2 => k_is)
    (case a3 => k_is)
    (case l3 => k_is)
    (case c3 => k_is)
    (case k3 => k_is)
    (case a4 => k_is)
    (case l4 => k_is)
    (case c4 => k_is)
    (case k4 => k_is)
    (case a5 => k_is)
    (case l5 => k_is)
    (case c5 => k_is)
    (case k5 => k_is)
    (case a6 => k_is)
    (case l6 => k_is)
    (case c6 => k_is)
    (case k6 => k_is)
    (case a7 => k_is)
    (case l7 => k_is)
    (case c7 => k_is)
    (case k7 => k_is)
    (case a8 => k_is)
    (case l8 => k_is)
    (case c8 => k_is)
    (case k8 => k_is)
    (case a9 => k_is)
    (case l9 => k_is)
    (case c9 => k_is)
    (case k9 => k_is)
    (case a10 => k_is)
    (case l10 => k_is)
    (case c10 => k_is)
    (case k10 => k_is)
    (case a11 => k_is)
    (case l11 => k_is)
    (case c11 => k_is)
    (case k11 => k_is)
    (case a12 => k_is)
    (case l12 => k_is)
    (case c12 => k_is)
    (case k12 => k_is)
    (case a13 => k_is)
    (case l13 => k_is)
    (case c13 => k_is)
    (case k13 => k_is)
    (case a14 => k_is)
    (case l14 => k_is)
    (case c14 => k_is)
    (case k14 => k_is)
    (case a15 => k_is)
    (case l15 => k_is)
    (case c15 => k_is)
    (case k15 => k_is)
    (case a16 => k_is)
    (case l16 => k_is)
    (case c16 => k_is)
    (case k16 => k_is)
    (case a17 => k_is)
    (case l17 => k_is)
    (case c17 => k_is)
    (case k17 => k_is)
    (case a18 => k_is)
    (case l18 => k_is)
    (case c18 => k_is)
    (case k18 => k_is)
    (case a19 => k_is)
    (case l19 => k_is)
    (case c19 => k_is)
    (case k19 => k_is)
    (case a20 => k_is)
    (case l20 => k_is)
    (case c20 => k_is)
    (case k20 => k_is)
    (case a21 => k_is)
    (case l21 => k_is)
    (case c21 => k_is)
    (case k21 => k_is)
    (case a22 => k_is)
    (case l22 => k_is)
    (case c22 => k_is)
    (case k22 => k_is)
    (case a23 => k_is)
    (case l23 => k_is)
    (case c23 => k_is)
    (case k23 => k_is)
    (case a24 => k_is)
    (case l24 => k_is)
    (case c24 => k_is)
    (case k24 => k_is)
    (case a25 => k_is)
    (case l25 => k_is)
    (case c25 => k_is)
    (case k25 => k_is)
    (case a26 => k_is)
    (case l26 => k_is)
    (case c26 => k_is)
    (case k26 => k_is)
    (case a27 => k_is)
    (case l27 => k_is)
    (case c27 => k_is)
    (case k27 => k_is)
    (case z0 => k_is)
    (case z1 => k_is)
    (case z2 => k_is)
    (case z3 => k_is)
    (case z4 => k_is)
    (case z5 => k_is)
    (case z6 => k_is)
    (case z7 => k_is)
    (case z8 => k_is)
    (case z9 => k_is)
    (case z10 => k_is)
