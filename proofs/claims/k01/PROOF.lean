import PyProof.Rows.All
import Wide.All
import OpenK.AllK
import Wide.FinOn
import PySem.Challenge.RW_fallingfields_k01_what_is_a_book
import HandS.ForMost
import KE.KDictKeyed
import KE.KDictPairs
import KE.KDictDisplayH
import HandS.Lambda
import HandS.ExcField
import HandS.ExcIs
import HandS.IsInst
import HandS.TupMul
import HandS.TupAny
import HandS.Call
import HandS.Style
import PyProof.EqAt
import PyProof.EqKinds
import PyProof.FactsAll.tuple_2
import HandS.Wide
import HandS.Text
import HandS.Deep
import KE.KTupSum
import KE.DataMinMax
import KE.SortData
import HandS.Flow
import HandS.EndBits
import HandS.Zip
import KE.GoesZip
import KE.GoesMore
import KE.GoesEnum
import HandS.Conv
import HandS.More
import HandS.SetFor
import HandS.Strs
import HandS.SortKw
import KE.KSortKey
import KE.SortKeyHeap
import KE.KNestM
import HandS.Codes
import HandS.Exc
import HandS.ExcOwn
import HandS.RaiseMore
import HandS.ExcInit
import HandS.ExcSuper
import KE.KExcSuper
import KE.KExcIs
import HandS.Star
import HandS.FStr
import HandS.ExcValue
import PyProof.ReprBulk
set_option Elab.async false
set_option linter.all false
set_option maxRecDepth 100000
set_option maxHeartbeats 3999999
/-! FFCore: a small language of data, its evaluator. -/
namespace FF
open PySem


/-- data: trees; `ref n` a mutable cell of the evaluator's own heap; `scr` the script -/
inductive D where
  | non | bl (b : Bool) | int (i : Int) | str (s : Str)
  | tup (ds : List D) | lst (ds : List D) | scr (ns : List Int) | ktp (ns : List Int) | kpp (ps : List (Int × Int))
  | ref (n : Nat) | dct (kv : List D) | exn (c : String) (fs : List D) | opq (k : Nat)
  deriving Inhabited

mutual
def D.beq : D → D → Bool
  | .non, .non => true
  | .bl a, .bl b => a == b
  | .int a, .int b => a == b
  | .str a, .str b => a == b
  | .tup a, .tup b => D.beqs a b
  | .lst a, .lst b => D.beqs a b
  | .scr a, .scr b => a == b
  | .ktp a, .ktp b => a == b
  | .kpp a, .kpp b => a == b
  | .ref a, .ref b => a == b
  | .dct a, .dct b => D.beqs a b
  | .exn c a, .exn d b => c == d && D.beqs a b
  | .opq a, .opq b => a == b
  | _, _ => false
def D.beqs : List D → List D → Bool
  | [], [] => true
  | a :: as, b :: bs => D.beq a b && D.beqs as bs
  | _, _ => false
end

abbrev Key := L2.Key

/-- what stands in a cell -/
inductive Ob where
  | lst (ds : List D) | dct (kvs : List (Key × D)) | dctT (kvs : List (List Key × D)) | dctN (kvs : List (D × D)) | ins (c : String) (fs : List (Str × D)) | dead
  deriving Inhabited
abbrev Hq := List Ob
abbrev Env' := List (Option D)

/-- what comes of a reckoning -/
inductive R (α : Type) where
  | ok (a : α) | exc (e : D) (h : Hq) | stuck
  deriving Inhabited
@[reducible] def R.bind {α β : Type} (x : R α) (f : α → R β) : R β := match x with | .ok a => f a | .exc e h => .exc e h | .stuck => .stuck
/-- what raises is nothing here -/
def hush {α : Type} : R α → R α
  | .exc _ _ => .stuck
  | r => r
def lift {α : Type} : Option α → R α
  | some a => .ok a
  | none => .stuck
def ofO {α : Type} (h : Hq) : Option α → Option (α × Hq)
  | some a => some (a, h)
  | none => none

inductive Bi where
  | len | int | abs | max | min | max2 | min2 | sum | tuple | list | range | repr | str | divmod | set | sorted | ss | all | bool | isint | isbool | isstr | istup | dict | tupleK | tupleP | sortK | xfld (f : Str) | reprL | minN | tupleM | opq0 | reprV | dct1 | isE (f : String)
  deriving DecidableEq, Inhabited
inductive Me where
  | append | pop | popAt | popKey | extend | insert | count | index | get2 | setdefault | join | split | replace
  deriving DecidableEq, Inhabited

mutual
inductive Ex where
  | var (i : Nat)
  | const (d : D)
  | glob (x : Str) (d : D)
  | bin (op : Operator) (live : Bool) (a b : Ex)
  | neg (a : Ex)
  | notV (a : Ex)
  | cmp (op : CmpOp) (a b : Ex)
  | cmp2 (op op' : CmpOp) (a b c : Ex)
  | andV (a b : Ex)
  | orV (a b : Ex)
  | ife (t a b : Ex)
  | tup (es : Exs)
  | tupK (es : Exs)
  | lst (live : Bool) (es : Exs)
  | dct (live : Bool) (es : Exs)
  | comp (live : Bool) (tg : Tg) (it : It) (ifs : Exs) (elt : Ex) (own : List Nat)
  | ix (a i : Ex)
  | slice (a : Ex) (lo hi : Exo)
  | rev (a : Ex)
  | call (f : Nat) (args : Exs)
  | callK (f : Nat) (perm : List Nat) (args : Exs)
  | callN (f : Nat) (args : Exs)
  | callNK (f : Nat) (perm : List Nat) (args : Exs)
  | bi (f : Bi) (live : Bool) (args : Exs)
  | me (m : Me) (o : Ex) (args : Exs)
  | lrng (live : Bool) (it : It)
  | trng (it : It)
  | dnew (tk : Bool)
  | newN
  | getN (o k d : Ex)
  | dget (x k d : Ex)
  | dispN (k v : Ex)
  | listN (live : Bool) (o : Ex)
  | sndN (live : Bool) (a b : Nat) (o : Ex)
  | star (a : Ex)
  | mkO (f : Nat) (args : Exs)
inductive Exs where
  | nil | cons (e : Ex) (es : Exs)
inductive Exo where
  | no | yes (e : Ex)
inductive It where
  | ex (e : Ex) | range1 (a : Ex) | range2 (a b : Ex) | enum (i : It) | zip (a b : Ex)
inductive Tg where
  | name (i : Nat) | tup (ts : Tgs)
inductive Tgs where
  | nil | cons (t : Tg) (ts : Tgs)
end
/-- an except clause of the laws' one form: return [tag, err.field?, True] -/
structure Hand where
  cls : String
  tag : Str
  fld : Bool

mutual
inductive Sm where
  | set (tg : Tg) (e : Ex)
  | par (is : List Nat) (es : Exs)
  | setIx (o i e : Ex)
  | setN (o i e : Ex)
  | expr (e : Ex)
  | ret (e : Ex)
  | retN
  | ite (t : Ex) (a b : Sms)
  | for (tg : Tg) (it : It) (body : Sms)
  | while (t : Ex) (body : Sms)
  | brk | cont | pass
  | never
  | raise (c : String) (es : Exs)
  | tryR (body : Sms) (hs : List Hand)
  | tryE (body : Sms) (c : String)
  | tryG (body : Sms) (cs : List String) (hs : Hds)
inductive Sms where
  | nil | cons (s : Sm) (ss : Sms)
/-- clauses: a class, the slot of a name, a suite -/
inductive Hds where
  | nil | cons (c : String) (i : Option Nat) (b : Sms) (r : Hds)
end

/-! ### plain pieces -/
/-- both below a line that no reckoning of ours passes -/
def wide (i : Int) : Bool := decide (i.natAbs.log2 < 400000)
def mulOk (i j : Int) : Bool := decide (-(2 ^ 64) < i ∧ i < 2 ^ 64) || decide (-(2 ^ 64) < j ∧ j < 2 ^ 64) || (wide i && wide j)
/-- a list's place by an index of any sign -/
def at? {α : Type} (xs : List α) (i : Int) : Option α := L2.atI xs i
def cut {α : Type} (xs : List α) (lo hi : Option Int) : List α := (xs.drop (HT.sIx xs.length 0 lo)).take (HT.sIx xs.length xs.length hi - HT.sIx xs.length 0 lo)
def lineOk (n : Nat) : Bool := decide (n ≤ 16777216)

def kget {κ : Type} [DecidableEq κ] (kvs : List (κ × D)) (k : κ) : Option D := (kvs.find? fun kv => decide (kv.1 = k)).map (·.2)
def kput {κ : Type} [DecidableEq κ] (kvs : List (κ × D)) (k : κ) (v : D) : List (κ × D) :=
  if (kvs.any fun kv => decide (kv.1 = k)) = true then kvs.map (fun kv => if kv.1 = k then (kv.1, v) else kv) else kvs ++ [(k, v)]
def kdrop {κ : Type} [DecidableEq κ] (kvs : List (κ × D)) (k : κ) : List (κ × D) := kvs.filter fun kv => decide (kv.1 ≠ k)
def keyOf : D → Option Key
  | .int i => some (.inl i)
  | .str s => some (.inr s)
  | _ => none
def keysOf : List D → Option (List Key)
  | [] => some []
  | d :: ds => match keyOf d, keysOf ds with | some k, some ks => some (k :: ks) | _, _ => none

def pairsOf : List D → Option (List (Key × D))
  | [] => some []
  | k :: v :: r => match keyOf k, pairsOf r with | some k, some kvs => some ((k, v) :: kvs) | _, _ => none
  | _ => none
/-- a pair of ints -/
def pairII (p : Int × Int) : D := .tup [.int p.1, .int p.2]
def pairsII : List D → Option (List (Int × Int))
  | [] => some []
  | .tup [.int a, .int b] :: r => match pairsII r with | some ps => some ((a, b) :: ps) | none => none
  | _ => none
/-! dicts whose keys are tuples, nested -/
mutual
def nk : D → Option NestedKey
  | .non => some .none
  | .bl b => some (.num (if b = true then 1 else 0))
  | .int i => some (.num i)
  | .tup ds => (nks ds).map .tup
  | .ktp ns => some (.tup (ns.map .num))
  | _ => none
def nks : List D → Option (List NestedKey)
  | [] => some []
  | d :: ds => match nk d, nks ds with | some k, some ks => some (k :: ks) | _, _ => none
end
def isTupD : D → Bool
  | .tup _ => true
  | .ktp _ => true
  | .kpp _ => true
  | _ => false
def keyN (d : D) : Option NestedKey := if isTupD d then (match nk d with | some k => if k.depth ≤ 8 then some k else none | none => none) else none
def nget (kvs : List (D × D)) (k : NestedKey) : Option D := (kvs.find? fun p => decide (keyN p.1 = some k)).map (·.2)
def nput (kvs : List (D × D)) (d : D) (k : NestedKey) (v : D) : List (D × D) :=
  if (kvs.any fun p => decide (keyN p.1 = some k)) = true then kvs.map (fun p => if keyN p.1 = some k then (p.1, v) else p) else kvs ++ [(d, v)]
/-- pairs of a key and a thing -/
def pairs2 : List D → Option (List (Key × D))
  | [] => some []
  | .tup [k, v] :: r => match keyOf k, pairs2 r with | some k, some kvs => some ((k, v) :: kvs) | _, _ => none
  | _ => none
/-- the items of a sequence -/
def itemsOf (h : Hq) : D → Option (List D)
  | .tup ds => some ds
  | .lst ds => some ds
  | .scr ns => some (ns.map .int)
  | .ktp ns => some (ns.map .int)
  | .kpp ps => some (ps.map pairII)
  | .ref n => match h[n]? with | some (.lst ds) => some ds | _ => none
  | _ => none
def intsOf : List D → Option (List Int)
  | [] => some []
  | .int i :: ds => (intsOf ds).map (i :: ·)
  | _ => none
def blsOf : List D → Option (List Bool)
  | [] => some []
  | .bl i :: ds => (blsOf ds).map (i :: ·)
  | _ => none
def strsOf : List D → Option (List Str)
  | [] => some []
  | .str i :: ds => (strsOf ds).map (i :: ·)
  | _ => none

def truth (h : Hq) : D → Option Bool
  | .non => some false
  | .bl b => some b
  | .int i => some (i != 0)
  | .str s => if lineOk s.length then some (s.length != 0) else none
  | .tup ds => some (!ds.isEmpty)
  | .lst ds => some (!ds.isEmpty)
  | .ref n => match h[n]? with | some (.lst ds) => some (!ds.isEmpty) | some (.dct kvs) => some (!kvs.isEmpty) | _ => none
  | _ => none

/-! ### data without cells -/
mutual
def D.pure : D → Bool
  | .ref _ => false
  | .tup ds => D.pures ds
  | .lst ds => D.pures ds
  | .dct ds => D.pures ds
  | .exn _ ds => D.pures ds
  | .scr _ => true
  | _ => true
def D.pures : List D → Bool
  | [] => true
  | d :: ds => d.pure && D.pures ds
end
mutual
/-- the tree of data as it stands in the cells, g for what stands in a cell -/
def D.melt (g : List D → Option (List D)) (h : Hq) : D → Option D
  | .ref n => match h[n]? with
    | some (.lst ds) => (g ds).map .lst
    | _ => none
  | .tup ds => (D.melts g h ds).map .tup
  | .lst ds => (D.melts g h ds).map .lst
  | .dct ds => (D.melts g h ds).map .dct
  | .exn c ds => (D.melts g h ds).map (.exn c)
  | d => some d
def D.melts (g : List D → Option (List D)) (h : Hq) : List D → Option (List D)
  | [] => some []
  | d :: ds => match D.melt g h d, D.melts g h ds with | some a, some b => some (a :: b) | _, _ => none
end
def meltN (h : Hq) : Nat → List D → Option (List D)
  | 0, ds => if D.pures ds then some ds else none
  | k + 1, ds => D.melts (meltN h k) h ds
def melt1 (h : Hq) (d : D) : Option D := match meltN h 3 [d] with | some [x] => some x | _ => none

/-! ### operators -/
def mkL (live : Bool) (ds : List D) (h : Hq) : Option (D × Hq) :=
  if lineOk ds.length then (if live then some (.ref h.length, h ++ [.lst ds]) else some (.lst ds, h)) else none
def mkK (ds : List D) (h : Hq) : Option (D × Hq) := match intsOf ds with
  | some ns => if lineOk ns.length then some (.ktp ns, h) else none
  | none => none
def mkT (ds : List D) (h : Hq) : Option (D × Hq) := if lineOk ds.length then some (.tup ds, h) else none

/-- the list of a list (a tree or a cell) -/
def lstOf (h : Hq) : D → Option (List D)
  | .lst ds => some ds
  | .ref n => match h[n]? with | some (.lst ds) => some ds | _ => none
  | _ => none

/-- .. or the script's -/
def sqlOf (h : Hq) : D → Option (List D)
  | .scr ns => some (ns.map .int)
  | d => lstOf h d
def int2 (C : Int → Int → Bool) (g : Int → Int → Int) (x y : D) (h : Hq) : Option (D × Hq) :=
  match x, y with
  | .int i, .int j => if C i j then some (.int (g i j), h) else none
  | _, _ => none
def addD (live : Bool) (x y : D) (h : Hq) : Option (D × Hq) :=
  match x, y with
  | .int i, .int j => some (.int (i + j), h)
  | .str i, .str j => if lineOk (i.length + j.length) then some (.str (i ++ j), h) else none
  | .tup i, .tup j => if lineOk (i.length + j.length) then some (.tup (i ++ j), h) else none
  | .ktp i, .ktp j => if lineOk (i.length + j.length) then some (.ktp (i ++ j), h) else none
  | a, b => match lstOf h a, lstOf h b with
    | some i, some j => if lineOk (i.length + j.length) then mkL live (i ++ j) h else none
    | _, _ => none
def mulD (live : Bool) (x y : D) (h : Hq) : Option (D × Hq) :=
  match y with
  | .int k => match x with
    | .int i => if mulOk i k then some (.int (i * k), h) else none
    | .tup i => if i ≠ [] ∧ -1000 ≤ k ∧ k ≤ 1000 ∧ i.length ≤ 1000 then some (.tup (List.replicate k.toNat i).flatten, h) else none
    | .ktp i => if i ≠ [] ∧ 1 ≤ k ∧ k ≤ 1000 ∧ i.length ≤ 1000 then some (.ktp (List.replicate k.toNat i).flatten, h) else none
    | a => match lstOf h a with
      | some i => if -(2 ^ 63) ≤ k ∧ k < 2 ^ 63 ∧ lineOk (i.length * k.toNat) then mkL live (List.replicate k.toNat i).flatten h else none
      | none => none
  | _ => none
def powOk (i j : Int) : Bool := decide (0 ≤ j ∧ j ≤ 1000000 ∧ i.natAbs < 2 ^ 64)
def binop (op : Operator) (live : Bool) (x y : D) (h : Hq) : Option (D × Hq) :=
  match op with
  | .Add => addD live x y h
  | .Sub => int2 (fun _ _ => true) (fun i j => i - j) x y h
  | .Mult => mulD live x y h
  | .FloorDiv => int2 (fun _ j => decide (0 < j ∧ j.natAbs.log2 < 9000)) (fun i j => i / j) x y h
  | .Mod => int2 (fun _ j => decide (0 < j)) (fun i j => i % j) x y h
  | .Pow => int2 powOk (fun i j => i ^ j.toNat) x y h
  | .LShift => int2 powOk (fun i j => i * 2 ^ j.toNat) x y h
  | .RShift => int2 (fun _ j => decide (0 ≤ j)) (fun i j => i / 2 ^ j.toNat) x y h
  | .BitAnd => int2 (fun _ _ => true) Builtin.bitAnd x y h
  | _ => none

mutual
/-- data as the library's trees -/
def D.py : D → Option PyData
  | .non => some .none
  | .bl b => some (.bool b)
  | .int i => some (.int i)
  | .str s => some (.str s)
  | .tup ds => (D.pys ds).map .tuple
  | .lst ds => (D.pys ds).map .list
  | .ktp ns => some (.tuple (ns.map .int))
  | .kpp ps => some (.tuple (ps.map fun p => .tuple [.int p.1, .int p.2]))
  | _ => none
def D.pys : List D → Option (List PyData)
  | [] => some []
  | d :: ds => match D.py d, D.pys ds with | some a, some b => some (a :: b) | _, _ => none
end
def pyOf (h : Hq) (d : D) : Option PyData := (melt1 h d).bind D.py
mutual
/-- data as trees, {} and {int: int} among them -/
def D.pyR : D → Option PyData
  | .non => some .none
  | .bl b => some (.bool b)
  | .int i => some (.int i)
  | .str s => some (.str s)
  | .tup ds => (D.pyRs ds).map .tuple
  | .lst ds => (D.pyRs ds).map .list
  | .ktp ns => some (.tuple (ns.map .int))
  | .kpp ps => some (.tuple (ps.map fun p => .tuple [.int p.1, .int p.2]))
  | .dct [] => some (.dict [])
  | .dct [.int k, .int v] => some (.dict [(.int k, .int v)])
  | _ => none
def D.pyRs : List D → Option (List PyData)
  | [] => some []
  | d :: ds => match D.pyR d, D.pyRs ds with | some a, some b => some (a :: b) | _, _ => none
end
/-- data that the library's repr, == take -/
def showOk (p : PyData) : Bool := p.showable && !p.hasDict && decide (p.depth ≤ 64) && lineOk p.shown.length
def eqPy (p q : PyData) : Option Bool := if SeqAt.shaped p && SeqAt.shaped q then some (PyData.eqv p q) else none
/-- scalars alike -/
def scalEq : D → D → Option Bool
  | .non, .non => some true
  | .int a, .int b => some (a == b)
  | .str a, .str b => some (a == b)
  | .bl a, .bl b => some (a == b)
  | _, _ => none
/-- beside the empty list: by the length alone -/
def eqNil (h : Hq) (x y : D) : Option Bool := match lstOf h x, lstOf h y with
  | some ds, some [] => some ds.isEmpty
  | _, _ => none
def eqD (h : Hq) (x y : D) : Option Bool :=
  match scalEq x y with
  | some b => some b
  | none => match pyOf h x, pyOf h y with
    | some p, some q => eqPy p q
    | _, _ => eqNil h x y
def lexLt : List Int → List Int → Bool := HT.lexLt
def ltD : D → D → Option Bool
  | .int a, .int b => some (decide (a < b))
  | .tup a, .tup b => match intsOf a, intsOf b with | some x, some y => some (HT.lexLt x y) | _, _ => none
  | _, _ => none
def flatD : D → Bool
  | .non => true | .bl _ => true | .int _ => true | .str _ => true | _ => false
def eqFl : D → D → Bool
  | .non, .non => true
  | .bl a, .bl b => a == b
  | .int a, .int b => a == b
  | .str a, .str b => a == b
  | .bl a, .int j => (if a then 1 else 0) == j
  | .int i, .bl b => i == (if b then 1 else 0)
  | _, _ => false
/-- x in xs of flat things; of plain data -/
def inD (h : Hq) (x y : D) : Option Bool :=
  match y with
  | .str b => match x with | .str a => some (!(Builtin.Str.occurrences b a 0 b.length 1).isEmpty) | _ => none
  | .ref n => match h[n]? with
    | some (.dct kvs) => (keyOf x).map fun k => (kget kvs k).isSome
    | some (.dctT kvs) => match x with | .tup ks => (keysOf ks).map fun k => (kget kvs k).isSome | _ => none
    | some (.lst ds) => if flatD x && ds.all flatD then some (ds.any fun d => eqFl d x) else none
    | _ => none
  | y => match itemsOf h y with
    | some ds => if flatD x && ds.all flatD then some (ds.any fun d => eqFl d x) else match pyOf h x, pyOf h y with
      | some d, some (.tuple ps) => if SeqAt.shaped d && SeqAt.shaped (.tuple ps) && decide (d.depth ≤ 60) then some (ps.any fun z => PyData.eqv z d) else none
      | some d, some (.list ps) => if SeqAt.shaped d && SeqAt.shaped (.list ps) then some (ps.any fun z => PyData.eqv z d) else none
      | _, _ => none
    | none => none

def intC (g : Int → Int → Bool) (x y : D) (h : Hq) : Option (D × Hq) :=
  match x, y with
  | .int i, .int j => some (.bl (g i j), h)
  | _, _ => none
def isNon : D → Bool
  | .non => true
  | _ => false
/-- is, is not: of two bools -/
def isBB (g : Bool → Bool) (x y : D) (h : Hq) : Option (D × Hq) :=
  match x, y with
  | .bl a, .bl b => some (.bl (g (decide (a = b))), h)
  | _, _ => none
def cmpop (op : CmpOp) (x y : D) (h : Hq) : Option (D × Hq) :=
  match op with
  | .Eq => ofO h ((eqD h x y).map .bl)
  | .NotEq => ofO h ((eqD h x y).map fun b => .bl (!b))
  | .Lt => ofO h ((ltD x y).map .bl)
  | .LtE => intC (fun a b => decide (a ≤ b)) x y h
  | .Gt => intC (fun a b => decide (b < a)) x y h
  | .GtE => intC (fun a b => decide (b ≤ a)) x y h
  | .Is => if isNon y then some (.bl (isNon x), h) else isBB id x y h
  | .IsNot => if isNon y then some (.bl (!isNon x), h) else isBB not x y h
  | .In => ofO h ((inD h x y).map .bl)
  | .NotIn => ofO h ((inD h x y).map fun b => .bl (!b))

def ixD (x i : D) (h : Hq) : Option (D × Hq) :=
  match x, i with
  | .str z, .int i => if lineOk z.length then (match at? z.cps.toList i with | some c => some (.str ⟨#[c]⟩, h) | none => none) else none
  | .ref n, i => match h[n]? with
    | some (.lst ds) => match i with | .int i => ofO h (at? ds i) | _ => none
    | some (.dct kvs) => match keyOf i with | some k => ofO h (kget kvs k) | none => none
    | some (.dctT kvs) => match i with | .tup ks => (match keysOf ks with | some k => ofO h (kget kvs k) | none => none) | _ => none
    | _ => none
  | x, .int i => match itemsOf h x with | some ds => ofO h (at? ds i) | none => none
  | _, _ => none
def hset (h : Hq) (n : Nat) (o : Ob) : Hq := h.set n o
def setD (x i v : D) (h : Hq) : Option Hq :=
  match x with
  | .ref n => match h[n]? with
    | some (.lst ds) => match i with
      | .int i => match L2.ixN ds.length i with | some j => some (hset h n (.lst (ds.set j v))) | none => none
      | _ => none
    | some (.dct kvs) => match keyOf i with | some k => if kvs.length < 16777216 then some (hset h n (.dct (kput kvs k v))) else none | none => none
    | some (.dctT kvs) => match i with | .tup ks => (match keysOf ks with | some k => if kvs.length < 16777216 then some (hset h n (.dctT (kput kvs k v))) else none | none => none) | _ => none
    | _ => none
  | _ => none
def mkD (live : Bool) (ds : List D) (h : Hq) : Option (D × Hq) :=
  match pairsOf ds with
  | some kvs => if kvs.length ≤ 15 then (if live then some (.ref h.length, h ++ [.dct (kvs.foldl (fun acc kv => kput acc kv.1 kv.2) [])]) else none) else none
  | none => none
def sliceD (x : D) (lo hi : Option Int) (h : Hq) : Option (D × Hq) :=
  match x with
  | .ktp ns => some (.ktp (cut ns lo hi), h)
  | .tup ds => some (.tup (cut ds lo hi), h)
  | .str z => if lineOk z.length then some (.str (L2.cutS z lo hi), h) else none
  | x => match sqlOf h x with | some ds => some (.lst (cut ds lo hi), h) | none => none

def foldMax : List Int → Option Int
  | [] => none
  | a :: l => some (l.foldl max a)
def foldMin : List Int → Option Int
  | [] => none
  | a :: l => some (l.foldl min a)
def insI (x : Int) : List Int → List Int
  | [] => [x]
  | y :: r => if x ≤ y then x :: y :: r else y :: insI x r
def sortI : List Int → List Int
  | [] => []
  | x :: r => insI x (sortI r)
/-- sorted, each once -/
def insU (x : Int) : List Int → List Int
  | [] => [x]
  | y :: r => if x < y then x :: y :: r else if x = y then y :: r else y :: insU x r
def sortU : List Int → List Int
  | [] => []
  | x :: r => insU x (sortU r)
def tupsI : List D → Option (List (List Int))
  | [] => some []
  | .tup ds :: r => match intsOf ds, tupsI r with | some a, some b => some (a :: b) | _, _ => none
  | _ => none
def lessT (a y : List Int) : List Int := if HT.lexLt y a then y else a
def foldMinT : List (List Int) → Option (List Int)
  | [] => none
  | a :: l => some (l.foldl lessT a)
def moreT (a y : List Int) : List Int := if HT.lexLt a y then y else a
def foldMaxT : List (List Int) → Option (List Int)
  | [] => none
  | a :: l => some (l.foldl moreT a)
/-- tuples of ints, sorted; how they may lie -/
def sortT (l : List (List Int)) : List (List Int) := l.mergeSort fun a b => !(HT.lexLt b a)
def sortOk (l : List (List Int)) : Bool := (l.all fun ns => !ns.isEmpty) || (match l with | [] :: _ => true | _ => false)
/-- texts, sorted -/
def leS (a b : Str) : Bool := !decide (b.cps.toList < a.cps.toList)
def sortS (l : List Str) : List Str := l.mergeSort leS
def rangeL (lo hi : Int) : List D := (List.range (hi - lo).toNat).map fun (i : Nat) => .int (lo + i)

def negD (x : D) (h : Hq) : Option (D × Hq) := match x with | .int i => some (.int (-i), h) | _ => none
def revD (x : D) (h : Hq) : Option (D × Hq) := match x with
  | .ktp ns => some (.ktp ns.reverse, h)
  | .tup ds => some (.tup ds.reverse, h)
  | x => match lstOf h x with | some ds => some (.lst ds.reverse, h) | none => none
def un1 (g : D → Hq → Option (D × Hq)) (args : List D) (h : Hq) : Option (D × Hq) := match args with | [x] => g x h | _ => none
def un2 (g : D → D → Hq → Option (D × Hq)) (args : List D) (h : Hq) : Option (D × Hq) := match args with | [x, y] => g x y h | _ => none
def lenD (x : D) (h : Hq) : Option (D × Hq) := match x with
  | .str z => if lineOk z.length then some (.int z.length, h) else none
  | .ref n => match h[n]? with
    | some (.lst ds) => some (.int ds.length, h)
    | some (.dct kvs) => some (.int kvs.length, h)
    | _ => none
  | x => match itemsOf h x with | some ds => some (.int ds.length, h) | none => none
def toIntD (x : D) (h : Hq) : Option (D × Hq) := match x with
  | .int i => some (.int i, h)
  | .bl b => some (.int (if b then 1 else 0), h)
  | .str z => if z.length ≤ 640 then (match intText? z with | some n => some (.int n, h) | none => none) else none
  | _ => none
def toBoolD (x : D) (h : Hq) : Option (D × Hq) := match x with
  | .int i => some (.bl (i != 0), h)
  | .bl b => some (.bl b, h)
  | _ => none
def absD (x : D) (h : Hq) : Option (D × Hq) := match x with
  | .int i => some (.int (if i < 0 then -i else i), h)
  | _ => none
def intsL (h : Hq) (x : D) : Option (List Int) := (lstOf h x).bind intsOf
def maxD (x : D) (h : Hq) : Option (D × Hq) := match x with
  | .tup ds => (match intsOf ds with | some ns => ofO h ((foldMax ns).map .int) | none => none)
  | x => match intsL h x with
    | some ns => ofO h ((foldMax ns).map .int)
    | none => match (lstOf h x).bind tupsI with
      | some nss => ofO h ((foldMaxT nss).map fun ns => .tup (ns.map .int))
      | none => none
def minD (x : D) (h : Hq) : Option (D × Hq) := match x with
  | .tup ds => (match intsOf ds with | some ns => ofO h ((foldMin ns).map .int) | none => none)
  | x => match intsL h x with
    | some ns => ofO h ((foldMin ns).map .int)
    | none => match (lstOf h x).bind tupsI with
      | some nss => ofO h ((foldMinT nss).map fun ns => .tup (ns.map .int))
      | none => none
def sumD (x : D) (h : Hq) : Option (D × Hq) := match x with
  | .tup ds => (match intsOf ds with | some ns => some (.int ns.sum, h) | none => none)
  | x => match intsL h x with | some ns => some (.int ns.sum, h) | none => none
def allD (x : D) (h : Hq) : Option (D × Hq) := match (lstOf h x).bind blsOf with | some bs => some (.bl (bs.all id), h) | none => none
def tupleKD (x : D) (h : Hq) : Option (D × Hq) := match sqlOf h x with
  | some ds => (match intsOf ds with | some ns => some (.ktp ns, h) | none => none)
  | none => none
/-- plain where all are ints -/
def tupleMD (x : D) (h : Hq) : Option (D × Hq) := match sqlOf h x with
  | some ds => (match intsOf ds with | some ns => some (.ktp ns, h) | none => some (.tup ds, h))
  | none => none
def tuplePD (x : D) (h : Hq) : Option (D × Hq) := match sqlOf h x with
  | some ds => (match pairsII ds with | some ps => some (.kpp ps, h) | none => none)
  | none => none
def tupleD (x : D) (h : Hq) : Option (D × Hq) := match x with
  | .tup ds => some (.tup ds, h)
  | .ktp ds => some (.ktp ds, h)
  | x => match sqlOf h x with | some ds => some (.tup ds, h) | none => none
def listD (live : Bool) (x : D) (h : Hq) : Option (D × Hq) := match itemsOf h x with | some ds => mkL live ds h | none => none
def reprD (x : D) (h : Hq) : Option (D × Hq) := match pyOf h x with | some p => if showOk p then some (.str p.shown, h) else none | none => none
def divmodD (x y : D) (h : Hq) : Option (D × Hq) := match x, y with
  | .int i, .int j => if 0 < j ∧ j < 1073741824 then some (.tup [.int (i / j), .int (i % j)], h) else none
  | _, _ => none
def strD (x : D) (h : Hq) : Option (D × Hq) := match x with | .int i => if i.natAbs.log2 < 1920 then some (.str (toString i), h) else none | _ => none
def sortedD (live : Bool) (x : D) (h : Hq) : Option (D × Hq) := match intsL h x with
  | some ns => if ns.length < 64 then mkL live ((sortI ns).map .int) h else none
  | none => match (lstOf h x).bind tupsI with
    | some nss => if sortOk nss && decide (nss.length ≤ 1000) then mkL live ((sortT nss).map fun ns => .tup (ns.map .int)) h else none
    | none => match (lstOf h x).bind strsOf with
      | some zs => if zs.length ≤ 1000 then mkL live ((sortS zs).map .str) h else none
      | none => none
def ssD (live : Bool) (x : D) (h : Hq) : Option (D × Hq) := match x with
  | .tup ds => match intsOf ds with | some ns => if ns.length < 64 then mkL live ((sortU ns).map .int) h else none | none => none
  | _ => none
/-- the type of a thing, of four -/
def isIn (f : Bi) (d : D) : Bool := match f, d with
  | .isint, .int _ => true | .isint, .bl _ => true
  | .isbool, .bl _ => true
  | .isstr, .str _ => true
  | .istup, .tup _ => true | .istup, .ktp _ => true | .istup, .kpp _ => true
  | _, _ => false
def isN (h : Hq) (x : D) : Bool := match x with | .ref n => (match h[n]? with | some (.dctN _) => true | _ => false) | _ => false
/-- an error -/
def isX (x : D) : Bool := match x with | .exn _ _ => true | .opq _ => true | _ => false
def isQ (x : D) : Bool := match x with | .opq _ => true | _ => false
def isD (f : Bi) (x : D) (h : Hq) : Option (D × Hq) := if isQ x then some (.bl false, h) else if isN h x || isX x then none else some (.bl (isIn f x), h)
/-- the field that an error class keeps -/
def fldOf (c : String) : Str := if c = "TooMany" then "limit" else if c = "Unlevel" then "pair" else if c = "BadBook" then "error" else if c = "NoVersion" then "given" else "place"
/-- pairs of an int and a tuple of ints; the first of the least -/
def pairsN : List D → Option (List (Int × List Int))
  | [] => some []
  | .tup [.int a, .tup ds] :: r => match intsOf ds, pairsN r with | some n, some l => some ((a, n) :: l) | _, _ => none
  | _ => none
def lessN (a y : Int × List Int) : Int × List Int := if y.1 < a.1 ∨ (y.1 = a.1 ∧ HT.lexLt y.2 a.2 = true) then y else a
def foldMinN : List (Int × List Int) → Option (Int × List Int)
  | [] => none
  | a :: l => some (l.foldl lessN a)
def minND (x : D) (h : Hq) : Option (D × Hq) := match (lstOf h x).bind pairsN with
  | some l => ofO h ((foldMinN l).map fun p => .tup [.int p.1, .tup (p.2.map .int)])
  | none => none
/-- repr of a list of two, the second maybe {} -/
def showX (p : PyData) : Bool := p.showable && decide (p.depth ≤ 64) && lineOk p.shown.length
def reprLD (x y : D) (h : Hq) : Option (D × Hq) := match y with
  | .dct [] => match x with
    | .tup ds => match tupsI ds with
      | some nss => if showX (.list [.tuple (nss.map fun n => .tuple (n.map .int)), .dict []]) then some (.str (PyData.list [.tuple (nss.map fun n => .tuple (n.map .int)), .dict []]).shown, h) else none
      | none => none
    | _ => none
  | y => reprD (.lst [x, y]) h
def reprVD (x : D) (h : Hq) : Option (D × Hq) := match D.pyR x with | some p => if showX p then some (.str p.shown, h) else none | none => none
def dct1D (x y : D) (h : Hq) : Option (D × Hq) := match x, y with
  | .int i, .int j => some (.dct [.int i, .int j], h)
  | _, _ => none
/-- the error classes; whether instances of one are of another -/
def errNames : List String := ["Unfit", "BadText", "BadBook", "TooMany", "Level", "Unlevel", "Few", "TooManyEdits", "NothingToUndo", "NothingToRedo", "NoVersion", "BadLog"]
def fieldy (c : String) : Bool := ["BadBook", "TooMany", "Unlevel", "NoVersion", "BadLog"].contains c
def subX (c f : String) : Bool := c == f || (f == "FieldsError" || f == "ValueError")
def isED (f : String) (x : D) (h : Hq) : Option (D × Hq) := match x with
  | .exn c _ => if errNames.contains c then some (.bl (subX c f), h) else none
  | _ => none
def fldD (f : Str) (x : D) (h : Hq) : Option (D × Hq) := match x with
  | .exn c [y] => if fldOf c = f then some (y, h) else none
  | _ => none
/-- sorted by a key: what stands first in the pairs' seconds the most -/
def tupO : D → Option (List D)
  | .tup ds => some ds
  | .ktp ns => some (ns.map .int)
  | _ => none
def keyK (b : D) (i : Int) : Option Int :=
  if i < 0 then none else (tupO b).bind fun xs => (xs[i.toNat]? : Option D).bind fun k => (tupO k).bind fun ys => match (ys[1]? : Option D) with | some (.int a) => some (-a) | _ => none
def keysK (b : D) : List Int → Option (List (Int × Int))
  | [] => some []
  | i :: is => match keyK b i, keysK b is with | some k, some ks => some ((i, k) :: ks) | _, _ => none
def leK (a b : Int × Int) : Bool := decide (a.2 ≤ b.2)
def sortKD (live : Bool) (x b : D) (h : Hq) : Option (D × Hq) := match intsL h x with
  | some is => if is.length ≤ 1000 then (match keysK b is with | some ps => mkL live ((ps.mergeSort leK).map fun p => D.int p.1) h | none => none) else none
  | none => none
def biD (f : Bi) (live : Bool) (args : List D) (h : Hq) : Option (D × Hq) :=
  match f with
  | .len => un1 lenD args h
  | .int => un1 toIntD args h
  | .bool => un1 toBoolD args h
  | .abs => un1 absD args h
  | .max2 => un2 (int2 (fun _ _ => true) fun i j => if j > i then j else i) args h
  | .min2 => un2 (int2 (fun _ _ => true) fun i j => if j < i then j else i) args h
  | .max => un1 maxD args h
  | .min => un1 minD args h
  | .sum => un1 sumD args h
  | .all => un1 allD args h
  | .tuple => un1 tupleD args h
  | .tupleK => un1 tupleKD args h
  | .tupleP => un1 tuplePD args h
  | .list => un1 (listD live) args h
  | .repr => un1 reprD args h
  | .divmod => un2 divmodD args h
  | .str => un1 strD args h
  | .sorted => un1 (sortedD live) args h
  | .ss => un1 (ssD live) args h
  | .sortK => un2 (sortKD live) args h
  | .isint => un1 (isD .isint) args h
  | .isbool => un1 (isD .isbool) args h
  | .isstr => un1 (isD .isstr) args h
  | .istup => un1 (isD .istup) args h
  | .xfld f => un1 (fldD f) args h
  | .reprL => un2 reprLD args h
  | .minN => un1 minND args h
  | .tupleM => un1 tupleMD args h
  | .reprV => un1 reprVD args h
  | .dct1 => un2 dct1D args h
  | .isE f => un1 (isED f) args h
  | .opq0 => (match args with | [] => some (.opq 0, h) | _ => none)
  | _ => none

inductive Kd where | lst | dct | tup | str | ktp
  deriving DecidableEq, Inhabited
def kdOf (h : Hq) : D → Option Kd
  | .ref n => match h[n]? with | some (.lst _) => some .lst | some (.dct _) => some .dct | _ => none
  | .tup _ => some .tup
  | .ktp _ => some .ktp
  | .str _ => some .str
  | _ => none
def meFits : Me → Kd → Bool
  | .append, .lst => true | .extend, .lst => true | .pop, .lst => true | .insert, .lst => true | .popAt, .lst => true | .popKey, .dct => true
  | .get2, .dct => true | .setdefault, .dct => true | .count, .ktp => true
  | .join, .str => true | .split, .str => true | _, _ => false
def meKind (m : Me) (x : D) (h : Hq) : Option Kd := match kdOf h x with
  | some k => if meFits m k then some k else none
  | none => none
def appendD (x : D) (args : List D) (h : Hq) : Option (D × Hq) := match x, args with
  | .ref n, [v] => match h[n]? with
    | some (.lst ds) => if ds.length < 16777216 then some (.non, hset h n (.lst (ds ++ [v]))) else none
    | _ => none
  | _, _ => none
def popD (x : D) (args : List D) (h : Hq) : Option (D × Hq) := match x, args with
  | .ref n, [] => match h[n]? with
    | some (.lst ds) => match ds[ds.length - 1]? with | some y => some (y, hset h n (.lst ds.dropLast)) | none => none
    | _ => none
  | _, _ => none
def popAtD (x : D) (args : List D) (h : Hq) : Option (D × Hq) := match x, args with
  | .ref n, [.int i] => match h[n]? with
    | some (.lst ds) => match L2.ixN ds.length i with
      | some j => match ds[j]? with | some y => if ds.length ≤ 16777216 then some (y, hset h n (.lst (ds.eraseIdx j))) else none | none => none
      | none => none
    | _ => none
  | _, _ => none
def popKeyD (x : D) (args : List D) (h : Hq) : Option (D × Hq) := match x, args with
  | .ref n, [k] => match h[n]? with
    | some (.dct kvs) => match keyOf k with
      | some k => match kget kvs k with | some v => some (v, hset h n (.dct (kdrop kvs k))) | none => none
      | none => none
    | _ => none
  | _, _ => none
def extendD (x : D) (args : List D) (h : Hq) : Option (D × Hq) := match x, args with
  | .ref n, [y] => match h[n]?, lstOf h y with
    | some (.lst ds), some es => if lineOk (ds.length + es.length) then some (.non, hset h n (.lst (ds ++ es))) else none
    | _, _ => none
  | _, _ => none
def get2D (x : D) (args : List D) (h : Hq) : Option (D × Hq) := match x, args with
  | .ref n, [k, d] => match h[n]? with
    | some (.dct kvs) => match keyOf k with | some k => some ((kget kvs k).getD d, h) | none => none
    | _ => none
  | _, _ => none
def insertD (x : D) (args : List D) (h : Hq) : Option (D × Hq) := match x, args with
  | .ref n, [.int i, y] => match h[n]? with
    | some (.lst ds) => if ds.length < 16777216 ∧ 0 ≤ i ∧ i < 2 ^ 63 then some (.non, hset h n (.lst (ds.take i.toNat ++ [y] ++ ds.drop i.toNat))) else none
    | _ => none
  | _, _ => none
def countD (x : D) (args : List D) (h : Hq) : Option (D × Hq) := match x, args with
  | .ktp ns, [.int i] => some (.int ((ns.countP fun n => n == i : Nat) : Int), h)
  | _, _ => none
def joinD (x : D) (args : List D) (h : Hq) : Option (D × Hq) := match x, args with
  | .str a, [y] => match (itemsOf h y).bind strsOf with
    | some ys => if (ys.map (·.length)).sum + ys.length * a.length ≤ 16777216 then some (.str (Txt.join a ys), h) else none
    | none => none
  | _, _ => none
def splitD (x : D) (args : List D) (h : Hq) : Option (D × Hq) := match x, args with
  | .str a, [.str b] => if (b.length == 0) = false ∧ a.length + 2 ≤ 16777216 then mkL false ((Txt.split a b).map .str) h else none
  | _, _ => none
def meD (k : Kd) (m : Me) (x : D) (args : List D) (h : Hq) : Option (D × Hq) :=
  match k, m with
  | .lst, .append => appendD x args h
  | .lst, .pop => popD x args h
  | .lst, .popAt => popAtD x args h
  | .dct, .popKey => popKeyD x args h
  | .lst, .extend => extendD x args h
  | .lst, .insert => insertD x args h
  | .dct, .get2 => get2D x args h
  | .ktp, .count => countD x args h
  | .str, .join => joinD x args h
  | .str, .split => splitD x args h
  | _, _ => none

/-! dicts with nested keys -/
def getND (x k d : D) (h : Hq) : Option (D × Hq) := match x with
  | .ref n => match h[n]? with
    | some (.dctN kvs) => match keyN k with | some q => some ((nget kvs q).getD d, h) | none => none
    | _ => none
  | _ => none
def setND (x k v : D) (h : Hq) : Option Hq := match x with
  | .ref n => match h[n]? with
    | some (.dctN kvs) => match keyN k with | some q => if kvs.length < 16777216 then some (hset h n (.dctN (nput kvs k q v))) else none | none => none
    | _ => none
  | _ => none
/-- dict(x).get(k, d): the pairs; what is got -/
def ppOf : D → Option (List (Key × D))
  | .kpp ps => some (ps.map fun p => ((Sum.inl p.1 : Key), D.int p.2))
  | .lst ds => pairs2 ds
  | _ => none
def dgetD (kvs : List (Key × D)) (k d : D) (h : Hq) : Option (D × Hq) := match keyOf k with
  | some q => some ((kget (kvs.foldl (fun acc kv => kput acc kv.1 kv.2) []) q).getD d, h)
  | none => none
def dispND (n : Nat) (k v : D) (h : Hq) : Option (D × Hq) := match h[n]? with
  | some (.dctN []) => match keyN k with | some _ => some (.ref n, hset h n (.dctN [(k, v)])) | none => none
  | _ => none
def keysN (h : Hq) (x : D) : Option (List D) := match x with
  | .ref n => match h[n]? with | some (.dctN kvs) => some (kvs.map (·.1)) | _ => none
  | _ => none
def sndOf : D → Option D
  | .tup [_, y] => some y
  | _ => none
def sndsOf : List D → Option (List D)
  | [] => some []
  | d :: ds => match sndOf d, sndsOf ds with | some a, some b => some (a :: b) | _, _ => none
def listND (live : Bool) (x : D) (h : Hq) : Option (D × Hq) := match keysN h x with | some ds => mkL live ds h | none => none
def sndND (live : Bool) (x : D) (h : Hq) : Option (D × Hq) := match (keysN h x).bind sndsOf with | some ds => mkL live ds h | none => none

/-! ### targets, what is walked -/
mutual
def asg : Tg → D → Env' → Option Env'
  | .name i, d, s => if i < s.length then some (s.set i (some d)) else none
  | .tup ts, d, s => match d with | .tup ds => asgs ts ds s | _ => none
def asgs : Tgs → List D → Env' → Option Env'
  | .nil, [], s => some s
  | .cons t ts, d :: ds, s => match asg t d s with | some s' => asgs ts ds s' | none => none
  | _, _, _ => none
end
abbrev Watch := List (Nat × List D)
def stands (h : Hq) (w : Watch) : Bool := w.all fun p => match h[p.1]? with | some (.lst ds) => D.beqs ds p.2 | _ => false
def wipe' (s : Env') : List Nat → Env'
  | [] => s
  | v :: vs => (wipe' s vs).set v none

abbrev Its' := List D × Watch × Hq
def itD (x : D) (h : Hq) : Option Its' := match x with
  | .ref n => match h[n]? with | some (.lst ds) => some (ds, [(n, ds)], h) | _ => none
  | .str z => some (z.cps.toList.map fun c => .str ⟨#[c]⟩, [], h)
  | x => match itemsOf h x with | some ds => some (ds, [], h) | none => none
def rng1D (x : D) (h : Hq) : Option Its' := match x with
  | .int j => if -(2 ^ 62) ≤ j ∧ j < 2 ^ 62 then some (rangeL 0 j, [], h) else none
  | _ => none
def rng2D (x y : D) (h : Hq) : Option Its' := match x, y with
  | .int i, .int j => if -(2 ^ 62) ≤ i ∧ i < 2 ^ 62 ∧ -(2 ^ 62) ≤ j ∧ j < 2 ^ 62 then some (rangeL i j, [], h) else none
  | _, _ => none
def enumL (xs : List D) : List D := xs.zipIdx.map fun p => .tup [.int (p.2 : Nat), p.1]
def isStrD : D → Bool
  | .str _ => true
  | _ => false
/-- enumerate of a list or a tuple -/
def enD (x : D) (h : Hq) : Option Its' := if isStrD x then none else (itD x h).map fun p => (enumL p.1, p.2.1, p.2.2)
def watchOf (x : D) (xs : List D) : Watch := match x with | .ref n => [(n, xs)] | _ => []
def zipD (x y : D) (h : Hq) : Option Its' := match itemsOf h x, itemsOf h y with
  | some xs, some ys => some ((xs.zip ys).map fun p => .tup [p.1, p.2], watchOf x xs ++ watchOf y ys, h)
  | _, _ => none
/-- a comprehension's turns -/
def turns (w : Watch) (step : D → Hq → R (Option D × Hq)) : List D → List D → Hq → R (List D × Hq)
  | [], acc, h => if stands h w then .ok (acc, h) else .stuck
  | x :: xs, acc, h => if stands h w then (step x h).bind fun r => if lineOk (acc.length + 1) then turns w step xs (match r.1 with | some y => acc ++ [y] | none => acc) r.2 else .stuck else .stuck

/-- how a block ends -/
inductive Fl where
  | nx (s : Env') (h : Hq) | rt (d : D) (h : Hq) | bk (s : Env') (h : Hq) | ct (s : Env') (h : Hq)
  deriving Inhabited
def loopF (w : Watch) (step : D → Env' → Hq → R Fl) : List D → Env' → Hq → R Fl
  | [], s, h => if stands h w then .ok (.nx s h) else .stuck
  | x :: xs, s, h => if stands h w then (step x s h).bind (fun
    | .nx s h => loopF w step xs s h
    | .ct s h => loopF w step xs s h
    | .bk s h => .ok (.nx s h)
    | .rt d h => .ok (.rt d h)) else .stuck
def loopW (test : Env' → Hq → R (Bool × Hq)) (step : Env' → Hq → R Fl) : Nat → Env' → Hq → R Fl
  | 0, _, _ => .stuck
  | n + 1, s, h => (test s h).bind fun (b, h) => if b then (step s h).bind (fun
    | .nx s h => loopW test step n s h
    | .ct s h => loopW test step n s h
    | .bk s h => .ok (.nx s h)
    | .rt d h => .ok (.rt d h)) else .ok (.nx s h)

abbrev Fn := Nat → List D → Hq → R (D × Hq)

def testOf (r : R (D × Hq)) : R (Bool × Hq) := r.bind fun (x, h) => match truth h x with | some b => .ok (b, h) | none => .stuck

mutual
def ev (φ : Fn) : Ex → Env' → Hq → R (D × Hq)
  | .var i, s, h => match s[i]? with | some (some d) => .ok (d, h) | _ => .stuck
  | .const d, _, h => .ok (d, h)
  | .glob _ d, _, h => .ok (d, h)
  | .bin op live a b, s, h => (ev φ a s h).bind fun (x, h) => (ev φ b s h).bind fun (y, h) => lift (binop op live x y h)
  | .neg a, s, h => (ev φ a s h).bind fun (x, h) => lift (negD x h)
  | .notV a, s, h => (testOf (ev φ a s h)).bind fun (b, h) => .ok (.bl (!b), h)
  | .cmp op a b, s, h => (ev φ a s h).bind fun (x, h) => (ev φ b s h).bind fun (y, h) => lift (cmpop op x y h)
  | .cmp2 op op' a b c, s, h => (ev φ a s h).bind fun (x, h) => (ev φ b s h).bind fun (y, h) => (lift (cmpop op x y h)).bind fun (z, h) =>
      match z with
      | .bl true => (ev φ c s h).bind fun (u, h) => lift (cmpop op' y u h)
      | .bl false => .ok (.bl false, h)
      | _ => .stuck
  | .andV a b, s, h => (ev φ a s h).bind fun (x, h) => match truth h x with | some true => ev φ b s h | some false => .ok (x, h) | none => .stuck
  | .orV a b, s, h => (ev φ a s h).bind fun (x, h) => match truth h x with | some false => ev φ b s h | some true => .ok (x, h) | none => .stuck
  | .ife t a b, s, h => (testOf (ev φ t s h)).bind fun (c, h) => if c then ev φ a s h else ev φ b s h
  | .tup es, s, h => (evs φ es s h).bind fun (ds, h) => lift (mkT ds h)
  | .tupK es, s, h => (evs φ es s h).bind fun (ds, h) => lift (mkK ds h)
  | .lst live es, s, h => (evs φ es s h).bind fun (ds, h) => lift (mkL live ds h)
  | .dct live es, s, h => (evs φ es s h).bind fun (ds, h) => lift (mkD live ds h)
  | .comp live tg it ifs elt own, s, h => (evIt φ it s h).bind fun (xs, w, h) =>
      (turns w (fun x h => match asg tg x (wipe' s own) with
        | some s' => hush ((evIf φ ifs s' h).bind fun (b, h) => if b then (ev φ elt s' h).bind fun (y, h) => .ok (some y, h) else .ok (none, h))
        | none => .stuck) xs [] h).bind fun (ds, h) => lift (mkL live ds h)
  | .ix a i, s, h => (ev φ a s h).bind fun (x, h) => (ev φ i s h).bind fun (y, h) => lift (ixD x y h)
  | .slice a lo hi, s, h => (ev φ a s h).bind fun (x, h) => (evO φ lo s h).bind fun (l, h) => (evO φ hi s h).bind fun (u, h) => lift (sliceD x l u h)
  | .rev a, s, h => (ev φ a s h).bind fun (x, h) => lift (revD x h)
  | .call f args, s, h => (evs φ args s h).bind fun (ds, h) => φ f ds h
  | .callK f perm args, s, h => (evs φ args s h).bind fun (ds, h) => φ f (perm.filterMap fun i => ds[i]?) h
  | .callN f args, s, h => (evs φ args s h).bind fun (ds, h) => hush (φ f ds h)
  | .callNK f perm args, s, h => (evs φ args s h).bind fun (ds, h) => hush (φ f (perm.filterMap fun i => ds[i]?) h)
  | .bi f live args, s, h => (evs φ args s h).bind fun (ds, h) => lift (biD f live ds h)
  | .me m o args, s, h => (ev φ o s h).bind fun (x, h) => match meKind m x h with
    | some k => (evs φ args s h).bind fun (ds, h) => lift (meD k m x ds h)
    | none => .stuck
  | .lrng live it, s, h => (evIt φ it s h).bind fun (xs, _, h) => lift (mkL live xs h)
  | .trng it, s, h => (evIt φ it s h).bind fun (xs, _, h) => lift (mkT xs h)
  | .dnew tk, _, h => .ok (.ref h.length, h ++ [if tk then .dctT [] else .dct []])
  | .newN, _, h => .ok (.ref h.length, h ++ [.dctN []])
  | .getN o k d, s, h => (ev φ o s h).bind fun (x, h) => if isN h x then (ev φ k s h).bind fun (k, h) => (ev φ d s h).bind fun (d, h) => lift (getND x k d h) else .stuck
  | .dget o k d, s, h => (ev φ o s h).bind fun (x, h) => match ppOf x with
    | some kvs => (ev φ k s h).bind fun (k, h) => (ev φ d s h).bind fun (d, h) => lift (dgetD kvs k d h)
    | none => .stuck
  | .dispN k v, s, h0 => (ev φ k s (h0 ++ [.dctN []])).bind fun (k, h) => (ev φ v s h).bind fun (v, h) => lift (dispND h0.length k v h)
  | .listN live o, s, h => (ev φ o s h).bind fun (x, h) => lift (listND live x h)
  | .sndN live _ b o, s, h => if b < s.length then (ev φ o s h).bind fun (x, h) => lift (sndND live x h) else .stuck
  | .star _, _, _ => .stuck
  | .mkO f es, s, h => (evs φ es s h).bind fun (xs, h) => (φ f xs h).bind fun (x, h) => if isNon x then .ok (.opq 1, h) else .stuck
def evs (φ : Fn) : Exs → Env' → Hq → R (List D × Hq)
  | .nil, _, h => .ok ([], h)
  | .cons e es, s, h => (ev φ e s h).bind fun (x, h) => (evs φ es s h).bind fun (xs, h) => .ok (x :: xs, h)
def evO (φ : Fn) : Exo → Env' → Hq → R (Option Int × Hq)
  | .no, _, h => .ok (none, h)
  | .yes e, s, h => (ev φ e s h).bind fun (x, h) => match x with | .int i => .ok (some i, h) | _ => .stuck
def evIf (φ : Fn) : Exs → Env' → Hq → R (Bool × Hq)
  | .nil, _, h => .ok (true, h)
  | .cons e .nil, s, h => testOf (ev φ e s h)
  | .cons _ (.cons _ _), _, _ => .stuck
def evIt (φ : Fn) : It → Env' → Hq → R (List D × Watch × Hq)
  | .ex e, s, h => (ev φ e s h).bind fun (x, h) => lift (itD x h)
  | .range1 a, s, h => (ev φ a s h).bind fun (x, h) => lift (rng1D x h)
  | .range2 a b, s, h => (ev φ a s h).bind fun (x, h) => (ev φ b s h).bind fun (y, h) => lift (rng2D x y h)
  | .enum (.ex e), s, h => (ev φ e s h).bind fun (x, h) => lift (enD x h)
  | .enum _, _, _ => .stuck
  | .zip a b, s, h => (ev φ a s h).bind fun (x, h) => (ev φ b s h).bind fun (y, h) => lift (zipD x y h)
end

/-- what a try makes of its body's end -/
def catchR (hs : List Hand) : R Fl → R Fl
  | .exc (.exn c ds) h => match hs.find? (fun t => t.cls == c) with
    | some t => if t.fld == ds.isEmpty then .stuck else (lift (mkL false (.str t.tag :: (if t.fld then ds.take 1 else []) ++ [.bl true]) h)).bind fun (x, h) => .ok (.rt x h)
    | none => .exc (.exn c ds) h
  | r => r
/-- what a try makes of its body's end that gives the error itself back -/
def catchE (c : String) : R Fl → R Fl
  | .exc (.exn c' ds) h => if c' == c then .ok (.rt (.exn c' ds) h) else .exc (.exn c' ds) h
  | r => r
/-- a name goes -/
def goneF (i : Nat) : Fl → Fl
  | .nx s h => .nx (s.set i none) h
  | .bk s h => .bk (s.set i none) h
  | .ct s h => .ct (s.set i none) h
  | f => f
def gone (i : Nat) : R Fl → R Fl
  | .ok f => .ok (goneF i f)
  | .exc _ _ => .stuck
  | .stuck => .stuck
/-- fuel of a while -/
def fuel : Nat := 4294967296
mutual
def exS (φ : Fn) : Sm → Env' → Hq → R Fl
  | .set tg e, s, h => (ev φ e s h).bind fun (x, h) => match asg tg x s with | some s' => .ok (.nx s' h) | none => .stuck
  | .par is es, s, h => (evs φ es s h).bind fun (ds, h) => if is.length = ds.length ∧ is.all (· < s.length) then .ok (.nx ((is.zip ds).foldl (fun s p => s.set p.1 (some p.2)) s) h) else .stuck
  | .setIx o i e, s, h => (ev φ e s h).bind fun (v, h) => (hush (ev φ o s h)).bind fun (x, h) => (hush (ev φ i s h)).bind fun (k, h) => (lift (setD x k v h)).bind fun h => .ok (.nx s h)
  | .setN o i e, s, h => (ev φ e s h).bind fun (v, h) => (hush (ev φ o s h)).bind fun (x, h) => (hush (ev φ i s h)).bind fun (k, h) => (lift (setND x k v h)).bind fun h => .ok (.nx s h)
  | .expr e, s, h => (ev φ e s h).bind fun (_, h) => .ok (.nx s h)
  | .ret e, s, h => (ev φ e s h).bind fun (x, h) => .ok (.rt x h)
  | .retN, _, h => .ok (.rt .non h)
  | .ite t a b, s, h => (testOf (ev φ t s h)).bind fun (c, h) => if c then exB φ a s h else exB φ b s h
  | .for tg it body, s, h => (evIt φ it s h).bind fun (xs, w, h) => loopF w (fun x s h => match asg tg x s with | some s' => exB φ body s' h | none => .stuck) xs s h
  | .while t body, s, h => loopW (fun s h => testOf (ev φ t s h)) (fun s h => exB φ body s h) fuel s h
  | .brk, s, h => .ok (.bk s h)
  | .cont, s, h => .ok (.ct s h)
  | .pass, s, h => .ok (.nx s h)
  | .never, _, _ => .stuck
  | .raise c es, s, h => (evs φ es s h).bind fun (ds, h) => .exc (.exn c ds) h
  | .tryR body hs, s, h => catchR hs (exB φ body s h)
  | .tryE body c, s, h => catchE c (exB φ body s h)
  | .tryG body cs hs, s, h => match exB φ body s h with
    | .exc (.exn c ds) h => if cs.contains c && (ds.isEmpty || fieldy c) then exH φ hs c ds s.length h else .stuck
    | .exc _ _ => .stuck
    | r => r
def exB (φ : Fn) : Sms → Env' → Hq → R Fl
  | .nil, s, h => .ok (.nx s h)
  | .cons a r, s, h => (exS φ a s h).bind fun
    | .nx s h => exB φ r s h
    | f => .ok f
/-- the clauses one by one; of the names none is known -/
def exH (φ : Fn) : Hds → String → List D → Nat → Hq → R Fl
  | .nil, _, _, _, _ => .stuck
  | .cons f i b r, c, ds, n, h => if subX c f then (match i with
      | none => exB φ b (List.replicate n none) h
      | some i => gone i (exB φ b ((List.replicate n none).set i (some (.exn c ds))) h))
    else exH φ r c ds n h
end

/-! ### defs -/
inductive Mode where | pure | trim | live
  deriving DecidableEq, Inhabited
structure Def where
  mode : Mode
  nps : Nat
  names : List Str
  body : Sms

def endOf : Fl → R (D × Hq)
  | .nx _ h => .ok (.non, h)
  | .rt d h => .ok (d, h)
  | _ => .stuck
mutual
/-- cells from n on are in nothing below -/
def D.under (n : Nat) : D → Bool
  | .ref k => decide (k < n)
  | .tup ds => D.unders n ds
  | .lst ds => D.unders n ds
  | .dct ds => D.unders n ds
  | .exn _ ds => D.unders n ds
  | _ => true
def D.unders (n : Nat) : List D → Bool
  | [] => true
  | d :: ds => D.under n d && D.unders n ds
end

def Ob.under (n : Nat) : Ob → Bool
  | .lst ds => D.unders n ds
  | .dct kvs => kvs.all fun p => p.2.under n
  | .dctT kvs => kvs.all fun p => p.2.under n
  | .dctN kvs => kvs.all fun p => p.1.under n && p.2.under n
  | .ins _ fs => fs.all fun p => p.2.under n
  | .dead => true
mutual
/-- melting only what is from n on -/
def D.thaw (n : Nat) (g : List D → Option (List D)) (h : Hq) : D → Option D
  | .ref k => if k < n then some (.ref k) else match h[k]? with
    | some (.lst ds) => (g ds).map .lst
    | _ => none
  | .tup ds => (D.thaws n g h ds).map .tup
  | .lst ds => (D.thaws n g h ds).map .lst
  | .dct ds => (D.thaws n g h ds).map .dct
  | .exn c ds => (D.thaws n g h ds).map (.exn c)
  | d => some d
def D.thaws (n : Nat) (g : List D → Option (List D)) (h : Hq) : List D → Option (List D)
  | [] => some []
  | d :: ds => match D.thaw n g h d, D.thaws n g h ds with | some a, some b => some (a :: b) | _, _ => none
end
def thawN (n : Nat) (h : Hq) : Nat → List D → Option (List D)
  | 0, ds => if D.unders n ds then some ds else none
  | k + 1, ds => D.thaws n (thawN n h k) h ds
def thaw1 (n : Nat) (h : Hq) (d : D) : Option D := match thawN n h 3 [d] with | some [x] => some x | _ => none

/-- what leaves a def that changes nothing of its caller's -/
def onExc (h : Hq) : R (D × Hq) → R (D × Hq)
  | .exc e _ => if e.pure then .exc e h else .stuck
  | r => r
def runDef (φ : Fn) (d : Def) (args : List D) (h : Hq) : R (D × Hq) :=
  if args.length ≠ d.nps then .stuck else
  let s : Env' := args.map some ++ List.replicate (d.names.length - d.nps) none
  match d.mode with
  | .live => (exB φ d.body s h).bind endOf
  | .trim => ((exB φ d.body s h).bind endOf).bind fun (x, h') => match thaw1 h.length h' x with
    | some y => if (h'.take h.length).all (Ob.under h.length) then .ok (y, h'.take h.length) else .stuck
    | none => .stuck
  | .pure => if D.pures args then onExc h (((exB φ d.body s []).bind endOf).bind fun (x, h') => match thaw1 0 h' x with
    | some y => .ok (y, h)
    | none => .stuck) else .stuck

/-- the defs of a text, by their names -/
def run (tbl : List (Nat × Def)) : Nat → Fn
  | 0, _, _, _ => .stuck
  | n + 1, f, args, h => match tbl.lookup f with
    | some d => runDef (run tbl n) d args h
    | none => .stuck
end FF

/-! FFRel: data and cells beside the layer's values and heaps. -/
namespace FF
open PySem PySem.Spec PyProof.Rows L2

section
variable (K : PySem.W.Frag) (Fr ρ : List Addr) (H : Hp)
/-- an object that stays -/
def Kept (a : Addr) (o : HO) : Prop := Rd H a o ∧ a ∉ ρ
def KTup (a : Addr) (xs : List V) : Prop :=
  ∃ (o : Obj) (its : Array Value) (n : Nat), K.lookup a = some o ∧ o.cls = .type "tuple" ∧ o.data = .seq its n ∧ its.size ≤ sizeLine ∧ Vals xs its.toList
/-- a tuple that is known to be plain -/
def FTup (a : Addr) (xs : List V) : Prop := (∃ o : Obj, H a = some (.frz o (.tup xs)) ∧ o.dict = none) ∧ a ∉ ρ
/-- .. or stays in the module -/
def PTup (a : Addr) (xs : List V) : Prop := FTup ρ H a xs ∨ (KTup K a xs ∧ ∃ o : Obj, K.lookup a = some o ∧ o.cls = .type "tuple" ∧ o.dict = none)
def KLst (a : Addr) (xs : List V) : Prop :=
  ∃ (o : Obj) (its : Array Value) (n : Nat), K.lookup a = some o ∧ o.cls = .type "list" ∧ o.dict = none ∧ o.data = .seq its n ∧ its.size ≤ sizeLine ∧ Vals xs its.toList
/-- a tuple of pairs of ints, known to be plain -/
def PPair (a : Addr) (ps : List (Int × Int)) : Prop := ∃ (o : Obj) (qs : List Addr), H a = some (.frz o (.tup (qs.map V.ref))) ∧ o.dict = none ∧ a ∉ ρ ∧ Paired (fun q (p : Int × Int) => H q = some (.tup [V.int p.1, V.int p.2]) ∧ q ∉ ρ) qs ps
/-- the class that bears a name -/
def NameK (c : String) (C : Addr) : Prop := ∃ o cd, K.lookup C = some o ∧ o.data = .cls cd ∧ cd.name = c
/-- an error that was caught and is kept: the object, its dict -/
def ErrAt (c : String) (v : V) (vs : List V) : Prop := ∃ a oe C d, v = .ref a ∧ H a = some (.frz oe (.own 0)) ∧ a ∉ ρ ∧ a ∉ Fr ∧ Zc (.ref C) d oe ∧ (∃ fs, oe.data = .fields fs) ∧
  ((vs = [] ∧ d = none) ∨ ∃ dd u, vs = [u] ∧ d = some dd ∧ H dd = some (.xd [(fldOf c, u)]) ∧ dd ∉ ρ ∧ dd ∉ Fr ∧ XfC K C ∧ PySem.W.findIn K (.ref C) (fldOf c) = some none) ∧ NameK K c C
/-- an error class whose instances are no ints, bools, texts, tuples -/
structure ExcK (C : Addr) : Prop where
  e : ExcC K C
  n4 : ∀ T, T = "int" ∨ T = "bool" ∨ T = "str" ∨ T = "tuple" → PySem.W.kitOne K (.ref C) (.type T) = some false
/-- a class whose instances are none of these -/
structure InsK (C : Addr) : Prop where
  cl : Cls K C
  ha : PySem.W.findIn K (.ref C) "__class__" = some (some (.builtin "object.__class__"))
  hn : PySem.W.specialIn K (.builtin "object.__class__") "__get__" = some (some (.builtin "getset_descriptor.__get__"))
  ht : PySem.W.takesIn K (.builtin "object.__class__") = some true
  hm : PySem.W.mroIn K C (.type "object") = some true
  n4 : ∀ T, T = "int" ∨ T = "bool" ∨ T = "str" ∨ T = "tuple" → PySem.W.kitOne K (.ref C) (.type T) = some false
/-- an object whose parts nobody reads: an error that was made, an instance -/
def OpqAt (a : Addr) : Prop := (∃ oe C, H a = some (.frz oe (.own 0)) ∧ Zc (.ref C) none oe ∧ (∃ fs, oe.data = .fields fs) ∧ ExcK K C) ∨ ∃ C dx fs, H a = some (.ins C dx fs) ∧ InsK K C
/-- {}, {int: int} -/
def DctR (ds : List D) (kvs : List (Key × V)) : Prop := (ds = [] ∧ kvs = []) ∨ ∃ i j, ds = [.int i, .int j] ∧ kvs = [(.inl i, .int j)]
mutual
def RD : D → V → Prop
  | .non, v => v = .non
  | .bl b, v => v = .bl b
  | .int i, v => v = .int i
  | .str s, v => v = .str s
  | .tup ds, v => ∃ a vs, v = .ref a ∧ H a = some (.tup vs) ∧ a ∉ ρ ∧ RDs ds vs
  | .lst ds, v => ∃ a vs, v = .ref a ∧ H a = some (.lst vs) ∧ a ∉ ρ ∧ a ∉ Fr ∧ RDs ds vs
  | .scr ns, v => ∃ a, v = .ref a ∧ ((Kept ρ H a (.lst (ns.map V.int)) ∧ a ∉ Fr) ∨ KLst K a (ns.map V.int))
  | .ktp ns, v => ∃ a, v = .ref a ∧ PTup K ρ H a (ns.map V.int)
  | .kpp ps, v => ∃ a, v = .ref a ∧ PPair ρ H a ps
  | .ref n, v => ∃ a, v = .ref a ∧ ρ[n]? = some a
  | .dct ds, v => ∃ kvs, DctR ds kvs ∧ ∃ a, v = .ref a ∧ H a = some (.dK kvs) ∧ a ∉ ρ ∧ a ∉ Fr
  | .exn c ds, v => ∃ vs, ErrAt K Fr ρ H c v vs ∧ RDs ds vs
  | .opq _, v => ∃ a, v = .ref a ∧ a ∉ ρ ∧ a ∉ Fr ∧ OpqAt K H a
def RDs : List D → List V → Prop
  | [], vs => vs = []
  | d :: ds, vs => ∃ v r, vs = v :: r ∧ RD d v ∧ RDs ds r
end
mutual
/-- no texts in the key: its hash is the same in all worlds -/
def bareK : NestedKey → Bool
  | .none => true
  | .num _ => true
  | .text _ => false
  | .tup ks => bareKs ks
def bareKs : List NestedKey → Bool
  | [] => true
  | k :: ks => bareK k && bareKs ks
end
/-- an entry of a dict with nested keys -/
def entN (w : World) (x : NestedKey × Addr × Value) : DictEntry := ⟨x.1.hash w, .ref x.2.1, x.2.2⟩
def PN : List (NestedKey × Addr × V) → List (NestedKey × Addr × Value) → Prop := Paired fun p q => p.1 = q.1 ∧ p.2.1 = q.2.1 ∧ RelV p.2.2 q.2.2
/-- the dict at a with the entries xs -/
def NDp (a : Addr) (xs : List (NestedKey × Addr × V)) (h : Heap) : Prop :=
  (a == sysModules) = false ∧ xs.length ≤ sizeLine ∧ ∃ ys, PN xs ys ∧ ∃ o es ep, h.get? a = some o ∧ o.ExactDict ∧ o.data = .dict es ep ∧ (∀ w, es.toList = ys.map (entN w)) ∧ (ys.map (·.1)).Nodup
def NDict (a : Addr) (xs : List (NestedKey × Addr × V)) : HO := .ext (NDp a xs)
theorem ndict_tb {a : Addr} {xs : List (NestedKey × Addr × V)} {ps : Array Value} : NDict a xs ≠ .tbl ps := fun z => by unfold NDict at z; cases z
theorem ndict_code {a : Addr} {xs : List (NestedKey × Addr × V)} {q : Str} : NDict a xs ≠ LamX.CodeO a q := fun z => by
  unfold NDict LamX.CodeO at z
  have z := congrFun (HO.ext.inj z) { objs := Array.replicate (a + 1) { cls := .none, data := .fields #[.none, .str q 0] } }
  have g : ({ objs := Array.replicate (a + 1) { cls := .none, data := .fields #[.none, .str q 0] } } : Heap).get? a = some { cls := .none, data := .fields #[.none, .str q 0] } := by
    unfold Heap.get?
    simp [Obj.isFreed]
  have y : NDp a xs { objs := Array.replicate (a + 1) { cls := .none, data := .fields #[.none, .str q 0] } } := by
    rw [z]
    exact ⟨_, _, 0, g, rfl, rfl⟩
  obtain ⟨_, _, ys, _, o, es, ep, e, _, d, _⟩ := y
  rw [g] at e
  cases e
  cases d
/-- data and what stands in the dict -/
def NR (kvs : List (D × D)) (xs : List (NestedKey × Addr × V)) : Prop :=
  kvs.map (fun p => keyN p.1) = xs.map (fun x => some x.1) ∧ RDs K Fr ρ H (kvs.map (·.1)) (xs.map fun x => V.ref x.2.1) ∧ RDs K Fr ρ H (kvs.map (·.2)) (xs.map (·.2.2))
def KR {κ : Type} (kvs : List (κ × D)) (vs : List (κ × V)) : Prop := kvs.map (·.1) = vs.map (·.1) ∧ RDs K Fr ρ H (kvs.map (·.2)) (vs.map (·.2))
def OR : Ob → Addr → Prop
  | .lst ds, a => ∃ vs, H a = some (.lst vs) ∧ RDs K Fr ρ H ds vs
  | .dct kvs, a => ∃ vs, H a = some (.dK vs) ∧ KR K Fr ρ H kvs vs
  | .dctT kvs, a => ∃ vs, H a = some (.dT vs) ∧ KR K Fr ρ H kvs vs
  | .dctN kvs, a => ∃ xs, H a = some (NDict a xs) ∧ NR K Fr ρ H kvs xs
  | _, _ => False
end
def isTb : HO → Bool
  | .tbl _ => true
  | _ => false
def isCl : HO → Bool
  | .lst _ => true
  | .dK _ => true
  | .dT _ => true
  | _ => false
/-- what may stand at a cell's address -/
def ClO (a : Addr) (u : HO) : Prop := isCl u = true ∨ ∃ xs, u = NDict a xs
/-- the defs that make lambdas -/
def lamDefs : List Str := ["floor_pieces"]
/-- the code objects of the defs that make lambdas, their tables, the lambdas' names -/
def lamTabs (K : PySem.W.Frag) : List (Addr × Addr × Str) := K.filterMap fun e => match e.2.data with
  | .fields vs => (match (vs[1]? : Option Value) with
    | some (.str n _) => if lamDefs.contains n then (match (vs[11]? : Option Value) with
      | some (.ref P) => some (e.1, P, n ++ ".<locals>." ++ "<lambda>")
      | _ => some (e.1, 0, "")) else none
    | _ => none)
  | _ => none
def LamTab (K : PySem.W.Frag) (P : Addr) (q : Str) : Prop := ∃ c, (c, P, q) ∈ lamTabs K
structure HR (K : PySem.W.Frag) (Fr ρ : List Addr) (h : Hq) (H : Hp) : Prop where
  len : ρ.length = h.length
  nd : ρ.Nodup
  fr' : ∀ a ∈ Fr, ∃ o, H a = some o ∧ isTb o = false
  tb : ∀ P q, LamTab K P q → LamX.TabS H P q
  dj : ∀ a ∈ ρ, a ∉ Fr
  at' : ∀ (n : Nat) (o : Ob), h[n]? = some o → ∃ a, ρ[n]? = some a ∧ OR K Fr ρ H o a
structure SR (K : PySem.W.Frag) (Fr ρ : List Addr) (H : Hp) (s : Env') (σ : L2.St) : Prop where
  len : s.length = σ.length
  get : ∀ (i : Nat) d, s[i]? = some (some d) → ∃ v, σ[i]? = some (some v) ∧ RD K Fr ρ H d v
/-- what comes later: more cells, what stays stays -/
structure Ext (ρ : List Addr) (H : Hp) (ρ' : List Addr) (H' : Hp) : Prop where
  more : ∃ m, ρ' = ρ ++ m ∧ ∀ a ∈ m, ∀ o, H a = some o → isTb o = true
  keep : ∀ (a : Addr) (o : HO) (_ : a ∉ ρ) (_ : H a = some o) (_ : isTb o = false := by rfl), H' a = some o

section
variable {K : PySem.W.Frag} {Fr ρ ρ' ρ2 : List Addr} {H H' H2 : Hp} {h h' : Hq} {s : Env'} {σ : L2.St}
theorem HR.fr (r : HR K Fr ρ h H) : ∀ a ∈ Fr, ∃ o, H a = some o := fun a ha => let ⟨o, e, _⟩ := r.fr' a ha; ⟨o, e⟩
theorem Ext.refl : Ext ρ H ρ H := ⟨⟨[], by simp, by simp⟩, fun _ _ _ e _ => e⟩
theorem Ext.out (x : Ext ρ H ρ' H') {a : Addr} {o : HO} (n : a ∉ ρ) (e : H a = some o) (ht : isTb o = false := by rfl) : a ∉ ρ' := by
  obtain ⟨m, rfl, hm⟩ := x.more
  intro z
  rcases List.mem_append.mp z with z | z
  · exact n z
  · have := hm a z o e; rw [ht] at this; cases this
theorem Ext.trans (x : Ext ρ H ρ' H') (y : Ext ρ' H' ρ2 H2) (hρ : ∀ a ∈ ρ, ∃ o, H' a = some o ∧ isTb o = false) : Ext ρ H ρ2 H2 := by
  refine ⟨?_, fun a o n e t => y.keep a o (x.out n e t) (x.keep a o n e t) t⟩
  obtain ⟨m, e1, hm⟩ := x.more
  obtain ⟨m2, e2, hm2⟩ := y.more
  refine ⟨m ++ m2, by rw [e2, e1, List.append_assoc], fun a ha o q => ?_⟩
  rcases List.mem_append.mp ha with z | z
  · exact hm a z o q
  · cases ht : isTb o with
    | true => rfl
    | false =>
      exfalso
      by_cases n : a ∈ ρ
      · obtain ⟨o', e, t'⟩ := hρ a n
        have := hm2 a z o' e
        rw [t'] at this; cases this
      · have := hm2 a z o (x.keep a o n q ht)
        rw [ht] at this; cases this
theorem Ext.get (x : Ext ρ H ρ' H') {n : Nat} {a : Addr} (e : ρ[n]? = some a) : ρ'[n]? = some a := by
  obtain ⟨m, rfl, _⟩ := x.more
  rw [List.getElem?_append_left (List.getElem?_eq_some_iff.mp e).1]
  exact e
theorem PTup.mono {a : Addr} {xs : List V} (x : Ext ρ H ρ' H') (k : PTup K ρ H a xs) : PTup K ρ' H' a xs :=
  k.imp (fun k => ⟨let ⟨o, e, d⟩ := k.1; ⟨o, x.keep a _ k.2 e, d⟩, let ⟨_, e, _⟩ := k.1; x.out k.2 e⟩) id
theorem PTup.sqT {a : Addr} {xs : List V} (k : PTup K ρ H a xs) : SqT K H a xs := by
  rcases k with ⟨⟨o, e, _⟩, _⟩ | ⟨k, _⟩
  · exact .inl (.inr ⟨o, e⟩)
  · exact .inr k
theorem paired_imp {α β : Type} {F G : α → β → Prop} : ∀ {xs : List α} {ys : List β}, Paired F xs ys → (∀ x y, F x y → G x y) → Paired G xs ys
  | _, _, .nil, _ => .nil
  | _, _, .cons a b, h => .cons (h _ _ a) (paired_imp b h)
theorem PPair.mono {a : Addr} {ps : List (Int × Int)} (x : Ext ρ H ρ' H') (k : PPair ρ H a ps) : PPair ρ' H' a ps := by
  obtain ⟨o, qs, e, d, n, r⟩ := k
  exact ⟨o, qs, x.keep a _ n e, d, x.out n e, paired_imp r fun q p z => ⟨x.keep q _ z.2 z.1, x.out z.2 z.1⟩⟩
theorem Kept.mono {a : Addr} {o : HO} (x : Ext ρ H ρ' H') (k : Kept ρ H a o) (ht : isTb o = false := by rfl) : Kept ρ' H' a o := by
  obtain ⟨r, n⟩ := k
  rcases r with r | ⟨ob, r⟩
  · exact ⟨.inl (x.keep a _ n r ht), x.out n r ht⟩
  · exact ⟨.inr ⟨ob, x.keep a _ n r⟩, x.out n r⟩
theorem OpqAt.go {a : Addr} (k : OpqAt K H a) (g : ∀ o, H a = some o → isTb o = false → H' a = some o) : OpqAt K H' a := by
  rcases k with ⟨oe, C, e, r⟩ | ⟨C, dx, fs, e, r⟩
  · exact .inl ⟨oe, C, g _ e rfl, r⟩
  · exact .inr ⟨C, dx, fs, g _ e rfl, r⟩
theorem OpqAt.has {a : Addr} (k : OpqAt K H a) : ∃ o, H a = some o ∧ isTb o = false := by
  rcases k with ⟨oe, C, e, r⟩ | ⟨C, dx, fs, e, r⟩
  · exact ⟨_, e, rfl⟩
  · exact ⟨_, e, rfl⟩
theorem ErrAt.go {Fr' : List Addr} {c : String} {v : V} {vs : List V} (k : ErrAt K Fr ρ H c v vs) (g : ∀ b o, b ∉ ρ → b ∉ Fr → H b = some o → isTb o = false → H' b = some o ∧ b ∉ ρ' ∧ b ∉ Fr') : ErrAt K Fr' ρ' H' c v vs := by
  obtain ⟨a, oe, C, d, e, k1, n, nf, z, f, q⟩ := k
  obtain ⟨g1, g2, g3⟩ := g a _ n nf k1 rfl
  refine ⟨a, oe, C, d, e, g1, g2, g3, z, f, q.1.imp id ?_, q.2⟩
  rintro ⟨dd, u, e1, e2, k2, m, mf, x⟩
  obtain ⟨g4, g5, g6⟩ := g dd _ m mf k2 rfl
  exact ⟨dd, u, e1, e2, g4, g5, g6, x⟩
mutual
theorem RD.mono (x : Ext ρ H ρ' H') : ∀ (d : D) (v : V), RD K Fr ρ H d v → RD K Fr ρ' H' d v
  | .non, _, r => r
  | .bl _, _, r => r
  | .int _, _, r => r
  | .str _, _, r => r
  | .tup ds, _, r => by
    unfold RD at r ⊢
    obtain ⟨a, vs, e, k, n, q⟩ := r
    exact ⟨a, vs, e, x.keep a _ n k, x.out n k, RDs.mono x ds vs q⟩
  | .lst ds, _, r => by
    unfold RD at r ⊢
    obtain ⟨a, vs, e, k, n, nf, q⟩ := r
    exact ⟨a, vs, e, x.keep a _ n k, x.out n k, nf, RDs.mono x ds vs q⟩
  | .scr ns, _, r => by
    unfold RD at r ⊢
    obtain ⟨a, e, k⟩ := r
    exact ⟨a, e, k.imp (fun k => ⟨Kept.mono x k.1, k.2⟩) id⟩
  | .ktp ns, _, r => by unfold RD at r ⊢; obtain ⟨a, e, k⟩ := r; exact ⟨a, e, k.mono x⟩
  | .kpp ps, _, r => by unfold RD at r ⊢; obtain ⟨a, e, k⟩ := r; exact ⟨a, e, k.mono x⟩
  | .ref n, _, r => by
    unfold RD at r ⊢
    obtain ⟨a, e, k⟩ := r
    exact ⟨a, e, x.get k⟩
  | .dct _, _, r => by
    unfold RD at r ⊢
    obtain ⟨kvs, e, a, ev, k, n, nf⟩ := r
    exact ⟨kvs, e, a, ev, x.keep a _ n k, x.out n k, nf⟩
  | .exn c ds, _, r => by
    unfold RD at r ⊢
    obtain ⟨vs, k, q⟩ := r
    exact ⟨vs, k.go fun b o n nf e t => ⟨x.keep b o n e t, x.out n e t, nf⟩, RDs.mono x ds vs q⟩
  | .opq _, _, r => by
    unfold RD at r ⊢
    obtain ⟨a, e, n, nf, k⟩ := r
    obtain ⟨o, ho, ht⟩ := k.has
    exact ⟨a, e, x.out n ho ht, nf, k.go fun o e t => x.keep a o n e t⟩
theorem RDs.mono (x : Ext ρ H ρ' H') : ∀ (ds : List D) (vs : List V), RDs K Fr ρ H ds vs → RDs K Fr ρ' H' ds vs
  | [], _, r => r
  | d :: ds, _, r => by
    unfold RDs at r ⊢
    obtain ⟨v, t, e, k, q⟩ := r
    exact ⟨v, t, e, RD.mono x d v k, RDs.mono x ds t q⟩
end
theorem KR.mono {κ : Type} {kvs : List (κ × D)} {vs : List (κ × V)} (x : Ext ρ H ρ' H') (r : KR K Fr ρ H kvs vs) : KR K Fr ρ' H' kvs vs := ⟨r.1, RDs.mono x _ _ r.2⟩
theorem NR.mono {kvs : List (D × D)} {xs : List (NestedKey × Addr × V)} (x : Ext ρ H ρ' H') (r : NR K Fr ρ H kvs xs) : NR K Fr ρ' H' kvs xs := ⟨r.1, RDs.mono x _ _ r.2.1, RDs.mono x _ _ r.2.2⟩
theorem SR.mono (x : Ext ρ H ρ' H') (r : SR K Fr ρ H s σ) : SR K Fr ρ' H' s σ :=
  ⟨r.len, fun i d e => let ⟨v, e1, q⟩ := r.get i d e; ⟨v, e1, RD.mono x d v q⟩⟩
theorem OR.tracked {o : Ob} {a : Addr} (r : OR K Fr ρ H o a) : ∃ u, H a = some u := by
  cases o with
  | lst ds => obtain ⟨vs, e, _⟩ := r; exact ⟨_, e⟩
  | dct ds => obtain ⟨vs, e, _⟩ := r; exact ⟨_, e⟩
  | dctT ds => obtain ⟨vs, e, _⟩ := r; exact ⟨_, e⟩
  | dctN ds => obtain ⟨vs, e, _⟩ := r; exact ⟨_, e⟩
  | ins _ _ => exact r.elim
  | dead => exact r.elim
theorem OR.cl {o : Ob} {a : Addr} (r : OR K Fr ρ H o a) : ∃ u, H a = some u ∧ ClO a u := by
  cases o with
  | lst ds => obtain ⟨vs, e, _⟩ := r; exact ⟨_, e, .inl rfl⟩
  | dct ds => obtain ⟨vs, e, _⟩ := r; exact ⟨_, e, .inl rfl⟩
  | dctT ds => obtain ⟨vs, e, _⟩ := r; exact ⟨_, e, .inl rfl⟩
  | dctN ds => obtain ⟨xs, e, _⟩ := r; exact ⟨_, e, .inr ⟨xs, rfl⟩⟩
  | ins _ _ => exact r.elim
  | dead => exact r.elim
theorem HR.cl (r : HR K Fr ρ h H) {a : Addr} (ha : a ∈ ρ) : ∃ u, H a = some u ∧ ClO a u := by
  obtain ⟨n, hn, e⟩ := List.getElem_of_mem ha
  have hl : n < h.length := by rw [← r.len]; exact hn
  obtain ⟨b, e1, q⟩ := r.at' n h[n] (List.getElem?_eq_getElem hl)
  rw [List.getElem?_eq_getElem hn, e] at e1
  cases e1
  exact q.cl
theorem isCl_tb {a : Addr} {u : HO} (h : ClO a u) : isTb u = false := by
  rcases h with h | ⟨xs, rfl⟩
  · cases u <;> first | rfl | cases h
  · rfl
/-- the tables stay where neither they nor the code objects are written -/
theorem tabS_set {P : Addr} {q : Str} {a : Addr} {o u : HO} (t : LamX.TabS H P q) (e : H a = some u) (hu : ClO a u) : LamX.TabS (upd H a o) P q := by
  obtain ⟨ps, h1, h2, h3⟩ := t
  refine ⟨ps, ?_, h2, fun pos cv hc => ?_⟩
  · have : P ≠ a := by
      rintro rfl
      rw [h1] at e
      rcases hu with hu | ⟨xs, hu⟩
      · cases e; cases hu
      · exact ndict_tb (hu.symm.trans (Option.some.inj e).symm)
    rw [upd_ne this]; exact h1
  · obtain ⟨c, e1, e2⟩ := h3 pos cv hc
    refine ⟨c, e1, ?_⟩
    have : c ≠ a := by
      rintro rfl
      rw [e2] at e
      rcases hu with hu | ⟨xs, hu⟩
      · unfold LamX.CodeO at e; cases e; cases hu
      · exact ndict_code (hu.symm.trans (Option.some.inj e).symm)
    rw [upd_ne this]; exact e2
theorem tabS_new {P : Addr} {q : Str} {p : Addr} {o : HO} (t : LamX.TabS H P q) (hp : H p = none) : LamX.TabS (upd H p o) P q :=
  t.ext fun b o e => by rw [upd_ne (ne_of_none e hp)]; exact e
theorem HR.tracked (r : HR K Fr ρ h H) {a : Addr} (ha : a ∈ ρ) : ∃ u, H a = some u := by
  obtain ⟨n, hn, e⟩ := List.getElem_of_mem ha
  have hl : n < h.length := by rw [← r.len]; exact hn
  obtain ⟨b, e1, q⟩ := r.at' n h[n] (List.getElem?_eq_getElem hl)
  rw [List.getElem?_eq_getElem hn, e] at e1
  cases e1
  exact q.tracked
theorem HR.fresh (r : HR K Fr ρ h H) {p : Addr} (hp : H p = none) : p ∉ ρ ∧ p ∉ Fr := by
  refine ⟨fun z => ?_, fun z => ?_⟩
  · obtain ⟨u, e⟩ := r.tracked z; rw [hp] at e; cases e
  · obtain ⟨u, e⟩ := r.fr p z; rw [hp] at e; cases e
theorem Ext.step (r : HR K Fr ρ' h' H') (x : Ext ρ H ρ' H') (y : Ext ρ' H' ρ2 H2) : Ext ρ H ρ2 H2 := x.trans y fun a ha => by
  obtain ⟨m, e, _⟩ := x.more
  obtain ⟨u, e1, c⟩ := r.cl (a := a) (by rw [e]; exact List.mem_append_left _ ha)
  exact ⟨u, e1, isCl_tb c⟩
/-- the same cells, more objects -/
theorem ext_new {p : Addr} {o : HO} (hp : H p = none) : Ext ρ H ρ (upd H p o) := by
  refine ⟨⟨[], by simp, by simp⟩, fun a u _ e _ => ?_⟩
  rw [upd_ne (ne_of_none e hp)]; exact e
theorem OR.mono {o : Ob} {a : Addr} (x : Ext ρ H ρ' H') (hk : H' a = H a) (r : OR K Fr ρ H o a) : OR K Fr ρ' H' o a := by
  cases o with
  | lst ds => obtain ⟨vs, e, q⟩ := r; exact ⟨vs, hk.trans e, RDs.mono x _ _ q⟩
  | dct ds => obtain ⟨vs, e, q⟩ := r; exact ⟨vs, hk.trans e, q.mono x⟩
  | dctT ds => obtain ⟨vs, e, q⟩ := r; exact ⟨vs, hk.trans e, q.mono x⟩
  | dctN ds => obtain ⟨vs, e, q⟩ := r; exact ⟨vs, hk.trans e, q.mono x⟩
  | ins _ _ => exact r.elim
  | dead => exact r.elim
theorem HR.new (r : HR K Fr ρ h H) {p : Addr} {o : HO} (hp : H p = none) : HR K Fr ρ h (upd H p o) := by
  refine ⟨r.len, r.nd, fun a ha => ?_, fun P q l => tabS_new (r.tb P q l) hp, r.dj, fun n u e => ?_⟩
  · obtain ⟨u, e, ht⟩ := r.fr' a ha
    exact ⟨u, by rw [upd_ne (ne_of_none e hp)]; exact e, ht⟩
  · obtain ⟨a, e1, q⟩ := r.at' n u e
    obtain ⟨u', e'⟩ := q.tracked
    exact ⟨a, e1, q.mono (ext_new hp) (upd_ne (ne_of_none e' hp))⟩
/-- a new cell -/
theorem ext_cell {p : Addr} {o : HO} (hp : H p = none) : Ext ρ H (ρ ++ [p]) (upd H p o) := by
  refine ⟨⟨[p], rfl, fun a ha o e => ?_⟩, fun a u _ e _ => ?_⟩
  · rw [List.mem_singleton] at ha; subst ha; rw [hp] at e; cases e
  · rw [upd_ne (ne_of_none e hp)]; exact e
theorem HR.cell (r : HR K Fr ρ h H) {p : Addr} {o : HO} {b : Ob} (hp : H p = none) (q : OR K Fr (ρ ++ [p]) (upd H p o) b p) : HR K Fr (ρ ++ [p]) (h ++ [b]) (upd H p o) := by
  obtain ⟨f1, f2⟩ := r.fresh hp
  refine ⟨by simp [r.len], ?_, fun a ha => ?_, fun P q l => tabS_new (r.tb P q l) hp, fun a ha => ?_, fun n u e => ?_⟩
  · rw [List.nodup_append]
    exact ⟨r.nd, by simp, fun a ha b hb => by rw [List.mem_singleton] at hb; subst hb; rintro rfl; exact f1 ha⟩
  · obtain ⟨u, e, ht⟩ := r.fr' a ha
    exact ⟨u, by rw [upd_ne (ne_of_none e hp)]; exact e, ht⟩
  · rcases List.mem_append.mp ha with z | z
    · exact r.dj a z
    · rw [List.mem_singleton] at z; subst z; exact f2
  · by_cases hn : n < h.length
    · rw [List.getElem?_append_left hn] at e
      obtain ⟨a, e1, q1⟩ := r.at' n u e
      obtain ⟨u', e'⟩ := q1.tracked
      exact ⟨a, (ext_cell (o := o) hp).get e1, q1.mono (ext_cell hp) (upd_ne (ne_of_none e' hp))⟩
    · have hn' : n = h.length := by
        have := (List.getElem?_eq_some_iff.mp e).1
        simp at this; omega
      subst hn'
      rw [List.getElem?_append_right (Nat.le_refl _)] at e
      simp at e; subst e
      refine ⟨p, ?_, q⟩
      rw [← r.len, List.getElem?_append_right (Nat.le_refl _)]; simp
/-- a cell written -/
theorem ext_set (r : HR K Fr ρ h H) {n : Nat} {a : Addr} {o : HO} (e : ρ[n]? = some a) : Ext ρ H ρ (upd H a o) := by
  refine ⟨⟨[], by simp, by simp⟩, fun b u nb q _ => ?_⟩
  have : b ≠ a := by rintro rfl; exact nb (List.mem_of_getElem? e)
  rw [upd_ne this]; exact q
theorem HR.set (r : HR K Fr ρ h H) {n : Nat} {a : Addr} {o : HO} {b : Ob} (e : ρ[n]? = some a) (q : OR K Fr ρ (upd H a o) b a) : HR K Fr ρ (h.set n b) (upd H a o) := by
  obtain ⟨u0, e0, hu0⟩ := r.cl (List.mem_of_getElem? e)
  refine ⟨by simp [r.len], r.nd, fun c hc => ?_, fun P q l => tabS_set (r.tb P q l) e0 hu0, r.dj, fun m u e2 => ?_⟩
  · obtain ⟨u, q, ht⟩ := r.fr' c hc
    have : c ≠ a := by rintro rfl; exact r.dj c (List.mem_of_getElem? e) hc
    exact ⟨u, by rw [upd_ne this]; exact q, ht⟩
  · by_cases hm : n = m
    · subst hm
      have hl : n < h.length := by rw [← r.len]; exact (List.getElem?_eq_some_iff.mp e).1
      rw [List.getElem?_set_self hl] at e2
      cases e2
      exact ⟨a, e, q⟩
    · rw [List.getElem?_set_ne hm] at e2
      obtain ⟨c, e1, q1⟩ := r.at' m u e2
      have : c ≠ a := by
        rintro rfl
        exact hm ((List.getElem_inj r.nd).mp ((List.getElem?_eq_some_iff.mp e).2.trans (List.getElem?_eq_some_iff.mp e1).2.symm))
      exact ⟨c, e1, q1.mono (ext_set r e) (upd_ne this)⟩

/-! ### what data is read as -/
theorem RDs.length : ∀ {ds : List D} {vs : List V}, RDs K Fr ρ H ds vs → ds.length = vs.length
  | [], vs, r => by unfold RDs at r; subst r; rfl
  | d :: ds, vs, r => by
    unfold RDs at r
    obtain ⟨v, t, rfl, _, q⟩ := r
    simp [RDs.length q]
theorem RDs.get : ∀ {ds : List D} {vs : List V} {i : Nat} {d : D}, RDs K Fr ρ H ds vs → ds[i]? = some d → ∃ v, vs[i]? = some v ∧ RD K Fr ρ H d v
  | [], _, _, _, _, e => by simp at e
  | d :: ds, vs, 0, x, r, e => by
    unfold RDs at r
    obtain ⟨v, t, rfl, k, _⟩ := r
    simp at e; subst e
    exact ⟨v, rfl, k⟩
  | d :: ds, vs, i + 1, x, r, e => by
    unfold RDs at r
    obtain ⟨v, t, rfl, _, q⟩ := r
    obtain ⟨w, e1, k⟩ := RDs.get (i := i) q (by simpa using e)
    exact ⟨w, by simpa using e1, k⟩
theorem RDs.nil : RDs K Fr ρ H [] [] := by unfold RDs; rfl
theorem RDs.cons {d : D} {v : V} {ds : List D} {vs : List V} (a : RD K Fr ρ H d v) (b : RDs K Fr ρ H ds vs) : RDs K Fr ρ H (d :: ds) (v :: vs) := by unfold RDs; exact ⟨v, vs, rfl, a, b⟩
theorem RDs.append : ∀ {ds es : List D} {vs ws : List V}, RDs K Fr ρ H ds vs → RDs K Fr ρ H es ws → RDs K Fr ρ H (ds ++ es) (vs ++ ws)
  | [], _, _, _, a, b => by unfold RDs at a; subst a; exact b
  | d :: ds, es, vs, ws, a, b => by
    unfold RDs at a
    obtain ⟨v, t, rfl, k, q⟩ := a
    exact .cons k (RDs.append q b)
theorem RDs.take : ∀ (n : Nat) {ds : List D} {vs : List V}, RDs K Fr ρ H ds vs → RDs K Fr ρ H (ds.take n) (vs.take n)
  | 0, _, _, _ => by simp; exact RDs.nil
  | n + 1, [], _, r => by unfold RDs at r; subst r; exact RDs.nil
  | n + 1, d :: ds, vs, r => by
    unfold RDs at r
    obtain ⟨v, t, rfl, k, q⟩ := r
    exact .cons k (RDs.take n q)
theorem RDs.drop : ∀ (n : Nat) {ds : List D} {vs : List V}, RDs K Fr ρ H ds vs → RDs K Fr ρ H (ds.drop n) (vs.drop n)
  | 0, _, _, r => by simpa using r
  | n + 1, [], _, r => by unfold RDs at r; subst r; exact RDs.nil
  | n + 1, d :: ds, vs, r => by
    unfold RDs at r
    obtain ⟨v, t, rfl, k, q⟩ := r
    simpa using RDs.drop n q
theorem RDs.set : ∀ (n : Nat) {ds : List D} {vs : List V} {d : D} {v : V}, RD K Fr ρ H d v → RDs K Fr ρ H ds vs → RDs K Fr ρ H (ds.set n d) (vs.set n v)
  | _, [], _, _, _, _, r => by unfold RDs at r; subst r; exact RDs.nil
  | 0, d :: ds, vs, _, _, k', r => by
    unfold RDs at r
    obtain ⟨v, t, rfl, k, q⟩ := r
    exact .cons k' q
  | n + 1, d :: ds, vs, _, _, k', r => by
    unfold RDs at r
    obtain ⟨v, t, rfl, k, q⟩ := r
    exact .cons k (RDs.set n k' q)
theorem RDs.eraseIdx : ∀ (n : Nat) {ds : List D} {vs : List V}, RDs K Fr ρ H ds vs → RDs K Fr ρ H (ds.eraseIdx n) (vs.eraseIdx n)
  | _, [], _, r => by unfold RDs at r; subst r; exact RDs.nil
  | 0, d :: ds, vs, r => by
    unfold RDs at r
    obtain ⟨v, t, rfl, k, q⟩ := r
    exact q
  | n + 1, d :: ds, vs, r => by
    unfold RDs at r
    obtain ⟨v, t, rfl, k, q⟩ := r
    exact .cons k (RDs.eraseIdx n q)
theorem RDs.reverse {ds : List D} {vs : List V} (r : RDs K Fr ρ H ds vs) : RDs K Fr ρ H ds.reverse vs.reverse := by
  induction ds generalizing vs with
  | nil => unfold RDs at r; subst r; exact RDs.nil
  | cons d ds ih =>
    unfold RDs at r
    obtain ⟨v, t, rfl, k, q⟩ := r
    rw [List.reverse_cons, List.reverse_cons]
    exact (ih q).append (.cons k .nil)
theorem RDs.dropLast {ds : List D} {vs : List V} (r : RDs K Fr ρ H ds vs) : RDs K Fr ρ H ds.dropLast vs.dropLast := by
  rw [List.dropLast_eq_take, List.dropLast_eq_take, ← r.length]; exact r.take _
theorem RDs.rep {ds : List D} {vs : List V} (r : RDs K Fr ρ H ds vs) : ∀ k : Nat, RDs K Fr ρ H (List.replicate k ds).flatten (List.replicate k vs).flatten
  | 0 => RDs.nil
  | k + 1 => by rw [List.replicate_succ, List.replicate_succ, List.flatten_cons, List.flatten_cons]; exact r.append (RDs.rep r k)
theorem RDs.ints : ∀ {ds : List D} {vs : List V} {ns : List Int}, intsOf ds = some ns → RDs K Fr ρ H ds vs → vs = ns.map V.int
  | [], vs, ns, e, r => by unfold RDs at r; cases e; exact r
  | d :: ds, vs, ns, e, r => by
    unfold RDs at r
    obtain ⟨v, t, rfl, k, q⟩ := r
    cases d with
    | int i =>
      unfold intsOf at e
      cases q2 : intsOf ds with
      | none => rw [q2] at e; cases e
      | some ms =>
        rw [q2] at e; cases e
        unfold RD at k
        rw [k, RDs.ints q2 q]; rfl
    | _ => unfold intsOf at e; cases e
theorem RDs.of_ints : ∀ (ns : List Int), RDs K Fr ρ H (ns.map D.int) (ns.map V.int)
  | [] => RDs.nil
  | n :: ns => RDs.cons (by unfold RD; rfl) (RDs.of_ints ns)
/-- a tuple, a list, a cell's list, the script: read -/
theorem RD.tupl {ds : List D} {v : V} (r : RD K Fr ρ H (.tup ds) v) : ∃ a vs, v = .ref a ∧ H a = some (.tup vs) ∧ RDs K Fr ρ H ds vs := by
  unfold RD at r
  obtain ⟨a, vs, e, k, _, q⟩ := r
  exact ⟨a, vs, e, k, q⟩
theorem RD.sqT {ds : List D} {v : V} (r : RD K Fr ρ H (.tup ds) v) : ∃ a vs, v = .ref a ∧ SqT K H a vs ∧ RDs K Fr ρ H ds vs := by
  obtain ⟨a, vs, e, k, q⟩ := r.tupl
  exact ⟨a, vs, e, .of k, q⟩
theorem RD.sqL {ds : List D} {v : V} (r : RD K Fr ρ H (.lst ds) v) : ∃ a vs, v = .ref a ∧ H a = some (.lst vs) ∧ RDs K Fr ρ H ds vs := by
  unfold RD at r
  obtain ⟨a, vs, e, k, _, _, q⟩ := r
  exact ⟨a, vs, e, k, q⟩
theorem HR.lst (r : HR K Fr ρ h H) {n : Nat} {ds : List D} {v : V} (k : RD K Fr ρ H (.ref n) v) (e : h[n]? = some (.lst ds)) : ∃ a vs, v = .ref a ∧ ρ[n]? = some a ∧ H a = some (.lst vs) ∧ RDs K Fr ρ H ds vs := by
  unfold RD at k
  obtain ⟨a, e1, e2⟩ := k
  obtain ⟨b, e3, vs, e4, q⟩ := r.at' n _ e
  rw [e2] at e3; cases e3
  exact ⟨a, vs, e1, e2, e4, q⟩
theorem HR.dct (r : HR K Fr ρ h H) {n : Nat} {kvs : List (Key × D)} {v : V} (k : RD K Fr ρ H (.ref n) v) (e : h[n]? = some (.dct kvs)) : ∃ a vs, v = .ref a ∧ ρ[n]? = some a ∧ H a = some (.dK vs) ∧ KR K Fr ρ H kvs vs := by
  unfold RD at k
  obtain ⟨a, e1, e2⟩ := k
  obtain ⟨b, e3, vs, e4, q⟩ := r.at' n _ e
  rw [e2] at e3; cases e3
  exact ⟨a, vs, e1, e2, e4, q⟩
theorem HR.lstOf (r : HR K Fr ρ h H) {d : D} {ds : List D} {v : V} (k : RD K Fr ρ H d v) (e : lstOf h d = some ds) : ∃ a vs, v = .ref a ∧ H a = some (.lst vs) ∧ RDs K Fr ρ H ds vs := by
  cases d with
  | lst es =>
    cases e
    obtain ⟨a, vs, e1, k1, q⟩ := k.sqL
    exact ⟨a, vs, e1, k1, q⟩
  | ref n =>
    dsimp only [FF.lstOf] at e
    cases q : h[n]? with
    | none => rw [q] at e; cases e
    | some o =>
      rw [q] at e
      cases o with
      | lst es =>
        cases e
        obtain ⟨a, vs, e1, _, k1, q⟩ := r.lst k q
        exact ⟨a, vs, e1, k1, q⟩
      | _ => cases e
  | _ => cases e
theorem PPair.rds {a : Addr} {ps : List (Int × Int)} (k : PPair ρ H a ps) : ∃ vs, SqT K H a vs ∧ RDs K Fr ρ H (ps.map pairII) vs := by
  obtain ⟨o, qs, e, d, n, r⟩ := k
  refine ⟨qs.map V.ref, .inl (.inr ⟨o, e⟩), ?_⟩
  clear e
  induction r with
  | nil => exact RDs.nil
  | @cons q p qs ps h t ih =>
    refine RDs.cons ?_ ih
    unfold pairII RD
    refine ⟨q, [V.int p.1, V.int p.2], rfl, h.1, h.2, ?_⟩
    refine RDs.cons (by unfold RD; rfl) (RDs.cons (by unfold RD; rfl) RDs.nil)
/-- a sequence: as a list or a tuple -/
theorem HR.items (r : HR K Fr ρ h H) {d : D} {ds : List D} {v : V} (k : RD K Fr ρ H d v) (e : itemsOf h d = some ds) : ∃ a vs, v = .ref a ∧ (SqL K H a vs ∨ SqT K H a vs) ∧ RDs K Fr ρ H ds vs := by
  cases d with
  | tup es =>
    cases e
    obtain ⟨a, vs, e1, k1, q⟩ := k.sqT
    exact ⟨a, vs, e1, .inr k1, q⟩
  | lst es =>
    cases e
    obtain ⟨a, vs, e1, k1, q⟩ := k.sqL
    exact ⟨a, vs, e1, .inl (.of k1), q⟩
  | scr ns =>
    cases e
    unfold RD at k
    obtain ⟨a, e1, k1⟩ := k
    refine ⟨a, _, e1, .inl ?_, RDs.of_ints ns⟩
    rcases k1 with ⟨k1, _⟩ | k1
    · exact .inl k1.1
    · exact .inr k1
  | ktp ns =>
    cases e
    unfold RD at k
    obtain ⟨a, e1, k1⟩ := k
    exact ⟨a, _, e1, .inr k1.sqT, RDs.of_ints ns⟩
  | kpp ps =>
    cases e
    unfold RD at k
    obtain ⟨a, e1, k1⟩ := k
    obtain ⟨vs, s1, q⟩ := k1.rds (K := K) (Fr := Fr)
    exact ⟨a, vs, e1, .inr s1, q⟩
  | ref n =>
    dsimp only [itemsOf] at e
    cases q : h[n]? with
    | none => rw [q] at e; cases e
    | some o =>
      rw [q] at e
      cases o with
      | lst es =>
        cases e
        obtain ⟨a, vs, e1, _, k1, q⟩ := r.lst k q
        exact ⟨a, vs, e1, .inl (.of k1), q⟩
      | _ => cases e
  | _ => cases e
end
end FF

/-! FFMul: a tuple once, and none of a tuple. -/
namespace FF
open PySem PySem.Spec PyProof.Rows L2
theorem tuple_mul1 (l : Addr) (items : Array Value) (n : Nat) (dd : Option Addr) (sl : Array (Option Value)) (u : Tok) :
    Meets (Builtin.«tuple.__mul__» ⟨[.ref l, .int 1 u], []⟩) (fun _ R s => s.heap.get? l = some { cls := .type "tuple", dict := dd, data := .seq items n, slots := sl } ∧ R (.ok (.ret (.ref l))) s) :=
  .of_wp fun prog w A R s h => by
    obtain ⟨hp, g, d, tk, os⟩ := s
    obtain ⟨hl, h⟩ := h
    have f1 := AutoSeq1.idx_int
    wp_walk using wpAny_loadPart' hl
    repeat (first
      | (refine wpAny_ite_false (by decide) ?_; wp_walk using wpAny_loadPart' hl)
      | (refine wpAny_ite_true (by simp) ?_; wp_walk using wpAny_loadPart' hl))
    exact ⟨_, rfl, h⟩
theorem tuple_mul0 (l : Addr) (items : Array Value) (n : Nat) (dd : Option Addr) (sl : Array (Option Value)) (x : Int) (u : Tok) (c0 : (decide (x < -(2 ^ 63)) || decide (x ≥ 2 ^ 63)) = false) (c1 : (items.isEmpty || x == 1) = false) (c2 : (decide (x ≤ 0) || items.isEmpty) = true) :
    Meets (Builtin.«tuple.__mul__» ⟨[.ref l, .int x u], []⟩) (fun _ R s => s.heap.get? l = some { cls := .type "tuple", dict := dd, data := .seq items n, slots := sl } ∧
      R (.ok (.ret (Value.ref s.heap.objs.size))) { s with heap := s.heap.push { cls := Value.type "tuple", data := Data.seq #[] }, toks := s.toks }) :=
  .of_wp fun prog w A R s h => by
    obtain ⟨hp, g, d, tk, os⟩ := s
    obtain ⟨hl, h⟩ := h
    have f1 := AutoSeq1.idx_int
    wp_walk using wpAny_loadPart' hl
    repeat (first
      | (refine wpAny_ite_false (decide_eq_false (by rw [c0]; exact Bool.false_ne_true)) ?_; wp_walk using wpAny_loadPart' hl)
      | (refine wpAny_ite_false (decide_eq_false (by rw [c1]; exact Bool.false_ne_true)) ?_; wp_walk using wpAny_loadPart' hl)
      | (refine wpAny_ite_true (decide_eq_true c2) ?_; wp_walk using wpAny_loadPart' hl))
    exact ⟨_, rfl, h⟩
def rRep1 (K : PySem.W.Frag) : R2 := fun x y H Q => ∃ l xs, x = .ref l ∧ y = .int 1 ∧ SqT K H l xs ∧ Q (.ref l) H
def rRep0 (K : PySem.W.Frag) : R2 := fun x y H Q => ∃ l k xs, x = .ref l ∧ y = .int k ∧ SqT K H l xs ∧ xs ≠ [] ∧ -1000 ≤ k ∧ k ≤ 0 ∧ ∀ p, H p = none → Q (.ref p) (upd H p (.tup []))
section
variable {X : Cx}
theorem op_rep1 : OpR X (binaryOp .Mult) (rRep1 X.K) := by
  intro pins s σ H x y v u Q I rx ry h
  obtain ⟨l, xs, rfl, rfl, hT, q⟩ := h
  cases rx
  obtain ⟨t, rfl⟩ := ry
  obtain ⟨its, r, ⟨⟨cls, dd, data, sl⟩, ho, hc, n, hd⟩, hs⟩ := I.tuple hT
  simp only at hc hd
  subst hc hd
  exact wpAny_binaryOp_repeat_ref (T := "tuple") (U := "int") (by decide) ⟨_, ho, rfl⟩ (fun s' => typeIs_int s' 1 t) noFill_tuple_mul F.fills_int_mul F.slot_int_rmul repeat_tuple F.slot_int_index.lookup
    (call_meets F.slot_int_rmul (typeIs_int s 1 t) F.entry_int_rmul (F.args_int_rmul_2 _ _) (int_rmul_tuple 1 t l its.toArray n dd sl)
      ⟨ho, rfl, ⟨_, ho, rfl⟩, call_meets F.slot_tuple_mul ⟨_, ho, rfl⟩ F.entry_tuple_mul (F.args_tuple_mul_2 _ _) (tuple_mul1 l its.toArray n dd sl t) ⟨ho, ⟨.ref l, H, I, rfl, q⟩⟩⟩)
theorem op_rep0 : OpR X (binaryOp .Mult) (rRep0 X.K) := by
  intro pins s σ H x y v u Q I rx ry h
  obtain ⟨l, k, xs, rfl, rfl, hT, hne, k0, k1, q⟩ := h
  cases rx
  obtain ⟨t, rfl⟩ := ry
  obtain ⟨its, r, ⟨⟨cls, dd, data, sl⟩, ho, hc, n, hd⟩, hs⟩ := I.tuple hT
  simp only at hc hd
  subst hc hd
  have hle : its.length = xs.length := r.length.symm
  have hi : its.toArray.isEmpty = false := by
    cases its with
    | nil => exact absurd (List.eq_nil_of_length_eq_zero hle.symm) hne
    | cons a b => rfl
  have c0 : (decide (k < -(2 ^ 63)) || decide (k ≥ 2 ^ 63)) = false := by
    rw [decide_eq_false (by omega), decide_eq_false (by omega)] <;> rfl
  have c1 : (its.toArray.isEmpty || k == 1) = false := by
    rw [hi, Bool.false_or]
    exact beq_eq_false_iff_ne.mpr (by omega)
  have c2 : (decide (k ≤ 0) || its.toArray.isEmpty) = true := by
    rw [hi, Bool.or_false]
    exact decide_eq_true k1
  refine wpAny_binaryOp_repeat_ref (T := "tuple") (U := "int") (by decide) ⟨_, ho, rfl⟩ (fun s' => typeIs_int s' k t) noFill_tuple_mul F.fills_int_mul F.slot_int_rmul repeat_tuple F.slot_int_index.lookup
    (call_meets F.slot_int_rmul (typeIs_int s k t) F.entry_int_rmul (F.args_int_rmul_2 _ _) (int_rmul_tuple k t l its.toArray n dd sl)
      ⟨ho, rfl, ⟨_, ho, rfl⟩, call_meets F.slot_tuple_mul ⟨_, ho, rfl⟩ F.entry_tuple_mul (F.args_tuple_mul_2 _ _) (tuple_mul0 l its.toArray n dd sl k t c0 c1 c2) ⟨ho, ?_⟩⟩)
  refine ⟨.ref s.heap.objs.size, _, I.laid (t' := s.toks) (o := .tup []) (fun b ob q => Heap.get?_push_of_some _ q) (Nat.le_refl _) ?_, rfl, q _ (I.hok.fresh (Nat.le_refl _))⟩
  exact ⟨by rw [sizeLine_eq]; simp, [], .nil, IsTup.new _ _⟩
end
end FF

/-! FFPlain: tuples that are known to have no dict of their own. -/
namespace FF
open PySem PySem.Spec PyProof.Rows L2
def rCatF (K : PySem.W.Frag) : R2 := fun x y H Q => ∃ a b xs ys, x = .ref a ∧ y = .ref b ∧ SqT K H a xs ∧ SqT K H b ys ∧ xs.length + ys.length ≤ sizeLine ∧
  (xs = [] → Q (.ref b) H) ∧ (xs ≠ [] → ys = [] → Q (.ref a) H) ∧ (xs ≠ [] → ys ≠ [] → ∀ (p : Addr) (o : Obj), H p = none → o.dict = none → Q (.ref p) (upd H p (.frz o (.tup (xs ++ ys)))))
section
variable {X : Cx}
theorem op_catF : OpR X (binaryOp .Add) (rCatF X.K) := by
  intro pins s σ H x y v u Q I rx ry h
  obtain ⟨a, b, xs, ys, rfl, rfl, ha, hb, hz, q0, q1, q2⟩ := h
  by_cases hx : xs = []
  · subst hx
    cases rx
    cases ry
    obtain ⟨its, r1, p1, _⟩ := I.tuple ha
    obtain ⟨its2, r2, p2, _⟩ := I.tuple hb
    cases r1
    exact cat_tup0 p1 p2 ⟨.ref b, H, I, rfl, q0 rfl⟩
  · cases rx
    cases ry
    obtain ⟨its, r1, p1, _⟩ := I.tuple ha
    obtain ⟨its2, r2, p2, _⟩ := I.tuple hb
    refine HT.cat_tup p1 p2 (fun z => hx (r1.nil_iff.mp z)) (fun z => ⟨.ref a, H, I, rfl, q1 hx (r2.nil_iff.mp z)⟩) (fun z => ?_) (by rw [← r1.length, ← r2.length]; exact hz)
    refine ⟨.ref s.heap.objs.size, _, I.laid (t' := s.toks) (o := .frz { cls := .type "tuple", data := .seq (its ++ its2).toArray } (.tup (xs ++ ys))) (fun b ob q => Heap.get?_push_of_some _ q) (Nat.le_refl _) ?_, rfl, q2 hx (fun w => z (r2.nil_iff.mpr w)) _ _ (I.hok.fresh (Nat.le_refl _)) rfl⟩
    exact ⟨Heap.get?_push_size _ rfl, by rw [List.length_append]; exact hz, _, r1.append r2, IsTup.new _ _⟩
def rRepF (K : PySem.W.Frag) : R2 := fun x y H Q => ∃ l k xs, x = .ref l ∧ y = .int k ∧ SqT K H l xs ∧ xs ≠ [] ∧ 2 ≤ k ∧ k ≤ 1000 ∧ xs.length ≤ 1000 ∧ ∀ (p : Addr) (o : Obj), H p = none → o.dict = none → Q (.ref p) (upd H p (.frz o (.tup (List.replicate k.toNat xs).flatten)))
theorem op_repF : OpR X (binaryOp .Mult) (rRepF X.K) := by
  intro pins s σ H x y v u Q I rx ry h
  obtain ⟨l, k, xs, rfl, rfl, hT, hne, h1, h2, hz, q⟩ := h
  cases rx
  obtain ⟨t, rfl⟩ := ry
  obtain ⟨its, r, ⟨⟨cls, dd, data, sl⟩, ho, hc, n, hd⟩, hs⟩ := I.tuple hT
  simp only at hc hd
  subst hc hd
  have hle : its.length = xs.length := r.length.symm
  have hn : its ≠ [] := fun e => hne (by
    rw [e] at hle
    exact List.eq_nil_of_length_eq_zero hle.symm)
  have hi : its.toArray.isEmpty = false := by
    cases its with
    | nil => exact absurd rfl hn
    | cons a b => rfl
  have hsz0 : its.toArray.size = xs.length := by rw [List.size_toArray, hle]
  have hm : ((its.toArray.size : Nat) : Int) * k ≤ 1000000 := by
    rw [hsz0]
    have a1 : ((xs.length : Nat) : Int) * k ≤ 1000 * k := Int.mul_le_mul_of_nonneg_right (by omega) (by omega)
    omega
  have flen : (List.replicate k.toNat its).flatten.length ≤ sizeLine := by
    rw [PyProof.Rows.lm_len_rep_flat, hle, sizeLine_eq]
    have a1 : k.toNat * xs.length ≤ 1000 * 1000 := Nat.mul_le_mul (by omega) hz
    omega
  have c0 : (decide (k < -(2 ^ 63)) || decide (k ≥ 2 ^ 63)) = false := by
    rw [decide_eq_false (by omega), decide_eq_false (by omega)] <;> rfl
  have c1 : (its.toArray.isEmpty || k == 1) = false := by
    rw [hi, Bool.false_or]
    exact beq_eq_false_iff_ne.mpr (by omega)
  have c2 : (decide (k ≤ 0) || its.toArray.isEmpty) = false := by
    rw [hi, Bool.or_false]
    exact decide_eq_false (by omega)
  have c4 : Builtin.Tuple.tupleTooMany (((its.toArray.size : Nat) : Int) * k) = false := by
    unfold Builtin.Tuple.tupleTooMany
    rw [sizeLine_eq]
    exact decide_eq_false (by omega)
  refine wpAny_binaryOp_repeat_ref (T := "tuple") (U := "int") (by decide) ⟨_, ho, rfl⟩ (fun s' => typeIs_int s' k t) noFill_tuple_mul F.fills_int_mul F.slot_int_rmul repeat_tuple F.slot_int_index.lookup
    (call_meets F.slot_int_rmul (typeIs_int s k t) F.entry_int_rmul (F.args_int_rmul_2 _ _) (int_rmul_tuple k t l its.toArray n dd sl)
      ⟨ho, rfl, ⟨_, ho, rfl⟩, call_meets F.slot_tuple_mul ⟨_, ho, rfl⟩ F.entry_tuple_mul (F.args_tuple_mul_2 _ _) (tuple_mulW l its.toArray n dd sl k t c0 c1 c2 (by omega) c4 (by rw [size_rep, List.size_toArray]; exact flen)) ⟨ho, ?_⟩⟩)
  rw [size_rep]
  refine ⟨.ref s.heap.objs.size, _, I.laid (t' := s.toks) (o := .frz { cls := .type "tuple", data := .seq (List.replicate k.toNat its).flatten.toArray } (.tup (List.replicate k.toNat xs).flatten)) (fun b ob q => Heap.get?_push_of_some _ q) (Nat.le_refl _) ?_, rfl, q _ _ (I.hok.fresh (Nat.le_refl _)) rfl⟩
  refine ⟨Heap.get?_push_size _ rfl, ?_, _, r.rep k.toNat, IsTup.new _ _⟩
  rw [PyProof.Rows.lm_len_rep_flat] at flen ⊢
  rw [← hle]; exact flen
/-! ### slices, backwards -/
def rSlF (K : PySem.W.Frag) : V → Option Int → Option Int → Hp → VK → Prop := fun x lo hi H Q => ∃ a xs, x = .ref a ∧ SqT K H a xs ∧
  (HT.sIx xs.length 0 lo = 0 ∧ HT.sIx xs.length xs.length hi = xs.length → Q (.ref a) H) ∧ (¬ (HT.sIx xs.length 0 lo = 0 ∧ HT.sIx xs.length xs.length hi = xs.length) → ∀ (p : Addr) (o : Obj), H p = none → o.dict = none → Q (.ref p) (upd H p (.frz o (.tup (cutV xs lo hi)))))
theorem sl_tupF : SlR X (rSlF X.K) := by
  intro pins s σ H x v vl vu lo hi sl Q I rx hs pl pu h
  obtain ⟨a, xs, rfl, hx, q1, q2⟩ := h
  cases rx
  obtain ⟨its, r, ht, hz⟩ := I.tuple hx
  have hlen : its.toArray.size = xs.length := by rw [List.size_toArray]; exact r.length.symm
  refine ⟨"tuple", _, PyProof.Rows.slot_tuple_getitem.lookup, ht.typeIs, ?_⟩
  by_cases hw : HT.sIx xs.length 0 lo = 0 ∧ HT.sIx xs.length xs.length hi = xs.length
  · exact getItem_tuple_whole ht hs pl pu (by rw [hlen]; exact hw) ⟨.ref a, H, I, rfl, q1 hw⟩
  · refine HT.getItem_tuple_cut ht hs pl pu (by rw [hlen]; exact hw) ?_ (by rw [hlen]; exact hz)
    rw [hlen]
    refine ⟨.ref s.heap.objs.size, _, I.laid (t' := s.toks) (o := .frz { cls := .type "tuple", data := .seq ((its.toArray.toList.drop (HT.sIx xs.length 0 lo)).take (HT.sIx xs.length xs.length hi - HT.sIx xs.length 0 lo)).toArray } (.tup (cutV xs lo hi))) (fun b ob q => Heap.get?_push_of_some _ q) (Nat.le_refl _) ?_, rfl, q2 hw _ _ (I.hok.fresh (Nat.le_refl _)) rfl⟩
    exact ⟨Heap.get?_push_size _ rfl, Nat.le_trans (cutV_length xs lo hi) hz, _, (r.drop (HT.sIx xs.length 0 lo)).take (HT.sIx xs.length xs.length hi - HT.sIx xs.length 0 lo), IsTup.new _ _⟩
/-! ### t.count(i) -/
end
end FF

/-! FFSE: the evaluator's expressions keep what the layer asks: operators. -/
namespace FF
open PySem PySem.Spec PyProof.Rows L2

section
variable {α β : Type} {P P' : α → Prop} {E E' : D → Hq → Prop}
def okR (P : α → Prop) (E : D → Hq → Prop) : R α → Prop
  | .ok a => P a
  | .exc e h => E e h
  | .stuck => False
theorem okR_bind {r : R α} {f : α → R β} {P : β → Prop} : okR P E (r.bind f) ↔ okR (fun a => okR P E (f a)) E r := by cases r <;> exact Iff.rfl
theorem okR.mono {r : R α} (h : okR P E r) (hp : ∀ a, P a → P' a) (he : ∀ e h, E e h → E' e h) : okR P' E' r := by
  cases r with
  | ok a => exact hp a h
  | exc e q => exact he e q h
  | stuck => exact h
theorem okR_lift {o : Option α} (h : okR P E (lift o)) : ∃ a, o = some a ∧ P a := by
  cases o with
  | none => exact h.elim
  | some a => exact ⟨a, rfl, h⟩
end

/-- what is wanted of an exception, by the cells as they stand -/
structure EK (K : PySem.W.Frag) where
  p : List Addr → List Addr → Hp → L2.St → D → Hq → Prop
  mono : ∀ {Fr ρ H ρ' H' σ e h h'}, Ext ρ H ρ' H' → HR K Fr ρ' h' H' → p Fr ρ H σ e h → p Fr ρ' H' σ e h
/-- none leaves -/
def EK.none (K : PySem.W.Frag) : EK K := ⟨fun _ _ _ _ _ _ => False, fun _ _ h => h⟩

section
variable (K : PySem.W.Frag) (W : EK K)
def Kont (Fr ρ : List Addr) (H : Hp) (Q : VK) : D × Hq → Prop := fun p => ∀ v ρ' H', Ext ρ H ρ' H' → HR K Fr ρ' p.2 H' → RD K Fr ρ' H' p.1 v → Q v H'
def KontB (Fr ρ : List Addr) (H : Hp) (Q : Bool → Hp → Prop) : Bool × Hq → Prop := fun p => ∀ ρ' H', Ext ρ H ρ' H' → HR K Fr ρ' p.2 H' → Q p.1 H'
def KontA (Fr ρ : List Addr) (H : Hp) (Q : List V → Hp → Prop) : List D × Hq → Prop := fun p => ∀ vs ρ' H', Ext ρ H ρ' H' → HR K Fr ρ' p.2 H' → RDs K Fr ρ' H' p.1 vs → Q vs H'
def TEk (f : Env' → Hq → R (D × Hq)) : TE := fun σ H Q => ∃ Fr ρ s h, HR K Fr ρ h H ∧ SR K Fr ρ H s σ ∧ okR (Kont K Fr ρ H Q) (W.p Fr ρ H σ) (f s h)
def TTk (f : Env' → Hq → R (Bool × Hq)) : TT := fun σ H Q => ∃ Fr ρ s h, HR K Fr ρ h H ∧ SR K Fr ρ H s σ ∧ okR (KontB K Fr ρ H Q) (W.p Fr ρ H σ) (f s h)
def TAk (f : Env' → Hq → R (List D × Hq)) : TA := fun σ H Q => ∃ Fr ρ s h, HR K Fr ρ h H ∧ SR K Fr ρ H s σ ∧ okR (KontA K Fr ρ H Q) (W.p Fr ρ H σ) (f s h)
/-- two values, reckoned on -/
def rD (g : D → D → Hq → Option (D × Hq)) : R2 := fun x y H Q => ∃ Fr ρ h d e, HR K Fr ρ h H ∧ RD K Fr ρ H d x ∧ RD K Fr ρ H e y ∧ ∃ p, g d e h = some p ∧ Kont K Fr ρ H Q p
def rD1 (g : D → Hq → Option (D × Hq)) : V → Hp → VK → Prop := fun x H Q => ∃ Fr ρ h d, HR K Fr ρ h H ∧ RD K Fr ρ H d x ∧ ∃ p, g d h = some p ∧ Kont K Fr ρ H Q p
def rDs (g : List D → Hq → Option (D × Hq)) : List V → Hp → VK → Prop := fun xs H Q => ∃ Fr ρ h ds, HR K Fr ρ h H ∧ RDs K Fr ρ H ds xs ∧ ∃ p, g ds h = some p ∧ Kont K Fr ρ H Q p
end

/-- an expression, a test, arguments by the evaluator -/
def SE (X : Cx) (W : EK X.K) (e : Expr) (f : Env' → Hq → R (D × Hq)) : Prop := PE X e (TEk X.K W f)
def ST (X : Cx) (W : EK X.K) (e : Expr) (f : Env' → Hq → R (Bool × Hq)) : Prop := PT X e (TTk X.K W f)
def SA (X : Cx) (W : EK X.K) (e : List Expr) (f : Env' → Hq → R (List D × Hq)) : Prop := PA X e (TAk X.K W f)

section
variable {X : Cx}
theorem PE.imp {e : Expr} {t t' : TE} (h : PE X e t) (i : ∀ σ H Q, t' σ H Q → t σ H Q) : PE X e t' := ⟨fun pins s σ H Q I q => h.run pins s σ H Q I (i σ H Q q)⟩
theorem PT.imp {e : Expr} {t t' : TT} (h : PT X e t) (i : ∀ σ H Q, t' σ H Q → t σ H Q) : PT X e t' := ⟨fun pins s σ H Q I q => h.run pins s σ H Q I (i σ H Q q)⟩
theorem PA.imp {e : List Expr} {t t' : TA} (h : PA X e t) (i : ∀ σ H Q, t' σ H Q → t σ H Q) : PA X e t' := ⟨fun pos pins s σ H Q I q => h.run pos pins s σ H Q I (i σ H Q q)⟩
theorem PS.imp {e : Stmt} {t t' : TS} (h : PS X e t) (i : ∀ D σ H, t' D σ H → t D σ H) : PS X e t' := ⟨fun pins s σ H Q I q => h.run pins s σ H Q I (i _ _ _ q)⟩
theorem PSs.imp {e : List Stmt} {t t' : TS} (h : PSs X e t) (i : ∀ D σ H, t' D σ H → t D σ H) : PSs X e t' := ⟨fun pins s σ H Q I q => h.run pins s σ H Q I (i _ _ _ q)⟩
theorem OpR.imp {f : Value → Value → Sem Value} {r r' : R2} (h : OpR X f r) (i : ∀ x y H Q, r' x y H Q → r x y H Q) : OpR X f r' := fun pins s σ H x y v u Q I rx ry q => h pins s σ H x y v u Q I rx ry (i _ _ _ _ q)
theorem UnR.imp {f : Value → Sem Value} {r r' : V → Hp → VK → Prop} (h : UnR X f r) (i : ∀ x H Q, r' x H Q → r x H Q) : UnR X f r' := fun pins s σ H x v Q I rx q => h pins s σ H x v Q I rx (i _ _ _ q)
theorem CallR.imp {f : Value} {r r' : List V → Hp → VK → Prop} (h : CallR X f r) (i : ∀ x H Q, r' x H Q → r x H Q) : CallR X f r' := fun pins s σ H x v Q I rx q => h pins s σ H x v Q I rx (i _ _ _ q)
theorem IxR.imp {r r' : R2} (h : IxR X r) (i : ∀ x y H Q, r' x y H Q → r x y H Q) : IxR X r' := fun va sl pins s σ H x y v u Q I rx ry q => h va sl pins s σ H x y v u Q I rx ry (i _ _ _ _ q)
theorem MtR.imp {id : String} {r r' : V → List V → Hp → VK → Prop} (h : MtR X id r) (i : ∀ x y H Q, r' x y H Q → r x y H Q) : MtR X id r' := fun pins s σ H x y v u Q I rx ry q => h pins s σ H x y v u Q I rx ry (i _ _ _ _ q)
theorem SlR.imp {r r' : V → Option Int → Option Int → Hp → VK → Prop} (h : SlR X r) (i : ∀ x a b H Q, r' x a b H Q → r x a b H Q) : SlR X r' := fun pins s σ H x v vl vu lo hi sl Q I rx a b c q => h pins s σ H x v vl vu lo hi sl Q I rx a b c (i _ _ _ _ _ q)
theorem PE.or {e : Expr} {t t' : TE} (h : PE X e t) (h' : PE X e t') : PE X e (fun σ H Q => t σ H Q ∨ t' σ H Q) := ⟨fun pins s σ H Q I q => q.elim (fun q => h.run pins s σ H Q I q) fun q => h'.run pins s σ H Q I q⟩
end

section
variable {K : PySem.W.Frag} {W : EK K} {Fr ρ ρ' : List Addr} {H H' : Hp} {h h' : Hq} {Q : VK}
/-- a scalar comes, nothing is changed -/
theorem Kont.same {d : D} {v : V} (k : Kont K Fr ρ H Q (d, h)) (r : HR K Fr ρ h H) (x : RD K Fr ρ H d v) : Q v H := k v ρ H .refl r x
theorem Kont.tup {ds : List D} {vs : List V} {p : Addr} (k : Kont K Fr ρ H Q (.tup ds, h)) (r : HR K Fr ρ h H) (x : RDs K Fr ρ H ds vs) (hp : H p = none) : Q (.ref p) (upd H p (.tup vs)) := by
  refine k _ ρ _ (ext_new hp) (r.new hp) ?_
  unfold RD
  exact ⟨p, vs, rfl, upd_same, (r.fresh hp).1, RDs.mono (ext_new hp) _ _ x⟩
theorem Kont.ktp {ns : List Int} {p : Addr} {o : Obj} (k : Kont K Fr ρ H Q (.ktp ns, h)) (r : HR K Fr ρ h H) (hp : H p = none) (ho : o.dict = none) : Q (.ref p) (upd H p (.frz o (.tup (ns.map V.int)))) := by
  refine k _ ρ _ (ext_new hp) (r.new hp) ?_
  unfold RD
  exact ⟨p, rfl, .inl ⟨⟨o, upd_same, ho⟩, (r.fresh hp).1⟩⟩
theorem RD.newL {ds : List D} {vs : List V} {p : Addr} (r : HR K Fr ρ h H) (x : RDs K Fr ρ H ds vs) (hp : H p = none) : RD K Fr ρ (upd H p (.lst vs)) (.lst ds) (.ref p) := by
  unfold RD
  exact ⟨p, vs, rfl, upd_same, (r.fresh hp).1, (r.fresh hp).2, RDs.mono (ext_new hp) _ _ x⟩
theorem Kont.lst {ds : List D} {vs : List V} {p : Addr} {q : D × Hq} {live : Bool} (k : Kont K Fr ρ H Q q) (e : mkL live ds h = some q) (r : HR K Fr ρ h H) (x : RDs K Fr ρ H ds vs) (hp : H p = none) : Q (.ref p) (upd H p (.lst vs)) := by
  unfold mkL at e
  split at e
  · split at e
    · cases e
      refine k _ (ρ ++ [p]) _ (ext_cell hp) (r.cell hp ⟨vs, upd_same, RDs.mono (ext_cell hp) _ _ x⟩) ?_
      unfold RD
      exact ⟨p, rfl, by rw [List.getElem?_append_right (by rw [r.len]; exact Nat.le_refl _), r.len]; simp⟩
    · cases e
      exact k _ ρ _ (ext_new hp) (r.new hp) (RD.newL r x hp)
  · cases e
theorem mkL_len {ds : List D} {q : D × Hq} {live : Bool} (e : mkL live ds h = some q) : ds.length ≤ sizeLine := by
  unfold mkL at e
  split at e
  · rename_i hl; rw [sizeLine_eq]; exact of_decide_eq_true hl
  · cases e
theorem lineOk_le {n : Nat} (e : lineOk n = true) : n ≤ sizeLine := by rw [sizeLine_eq]; exact of_decide_eq_true e

theorem rd_int {i : Int} {v : V} : RD K Fr ρ H (.int i) v ↔ v = .int i := by unfold RD; exact Iff.rfl
theorem rd_bl {i : Bool} {v : V} : RD K Fr ρ H (.bl i) v ↔ v = .bl i := by unfold RD; exact Iff.rfl
theorem rd_str {i : Str} {v : V} : RD K Fr ρ H (.str i) v ↔ v = .str i := by unfold RD; exact Iff.rfl
theorem rd_non {v : V} : RD K Fr ρ H .non v ↔ v = .non := by unfold RD; exact Iff.rfl

/-- two operands -/
theorem t2 {fa fb : Env' → Hq → R (D × Hq)} {g : D → D → Hq → R (D × Hq)} {σ : L2.St} (t : TEk K W (fun s h => (fa s h).bind fun p => (fb s p.2).bind fun q => g p.1 q.1 q.2) σ H Q) :
    TEk K W fa σ H fun x H1 => TEk K W fb σ H1 fun y H2 => ∃ Fr ρ h d e, HR K Fr ρ h H2 ∧ RD K Fr ρ H2 d x ∧ RD K Fr ρ H2 e y ∧ okR (Kont K Fr ρ H2 Q) (W.p Fr ρ H2 σ) (g d e h) := by
  obtain ⟨Fr, ρ, s, h, r, sr, ok⟩ := t
  refine ⟨Fr, ρ, s, h, r, sr, (okR_bind.mp ok).mono (fun p q v ρ1 H1 x1 r1 d1 => ?_) fun _ _ z => z⟩
  refine ⟨Fr, ρ1, s, p.2, r1, sr.mono x1, (okR_bind.mp q).mono (fun p2 q2 w ρ2 H2 x2 r2 d2 => ?_) fun _ _ z => W.mono x1 r1 z⟩
  refine ⟨Fr, ρ2, p2.2, p.1, p2.1, r2, RD.mono x2 _ _ d1, d2, q2.mono (fun a k u ρ3 H3 x3 r3 d3 => k u ρ3 H3 ((x1.step r1 x2).step r2 x3) r3 d3) fun _ _ z => W.mono (x1.step r1 x2) r2 z⟩
theorem t2o {fa fb : Env' → Hq → R (D × Hq)} {g : D → D → Hq → Option (D × Hq)} {σ : L2.St} (t : TEk K W (fun s h => (fa s h).bind fun p => (fb s p.2).bind fun q => lift (g p.1 q.1 q.2)) σ H Q) :
    tOp (rD K g) (TEk K W fa) (TEk K W fb) σ H Q := by
  obtain ⟨Fr, ρ, s, h, r, sr, ok⟩ := t2 (g := fun d e h => lift (g d e h)) t
  refine ⟨Fr, ρ, s, h, r, sr, ok.mono (fun p q v ρ1 H1 x1 r1 d1 => ?_) fun _ _ z => z⟩
  obtain ⟨Fr, ρ, s, h, r, sr, ok⟩ := q v ρ1 H1 x1 r1 d1
  refine ⟨Fr, ρ, s, h, r, sr, ok.mono (fun p q v ρ1 H1 x1 r1 d1 => ?_) fun _ _ z => z⟩
  obtain ⟨Fr, ρ, h, d, e, r, d1, d2, ok⟩ := q v ρ1 H1 x1 r1 d1
  exact ⟨Fr, ρ, h, d, e, r, d1, d2, okR_lift ok⟩
theorem t1 {fa : Env' → Hq → R (D × Hq)} {g : D → Hq → R (D × Hq)} {σ : L2.St} (t : TEk K W (fun s h => (fa s h).bind fun p => g p.1 p.2) σ H Q) :
    TEk K W fa σ H fun x H1 => ∃ Fr ρ h d, HR K Fr ρ h H1 ∧ RD K Fr ρ H1 d x ∧ okR (Kont K Fr ρ H1 Q) (W.p Fr ρ H1 σ) (g d h) := by
  obtain ⟨Fr, ρ, s, h, r, sr, ok⟩ := t
  refine ⟨Fr, ρ, s, h, r, sr, (okR_bind.mp ok).mono (fun p q v ρ1 H1 x1 r1 d1 => ?_) fun _ _ z => z⟩
  exact ⟨Fr, ρ1, p.2, p.1, r1, d1, q.mono (fun a k u ρ3 H3 x3 r3 d3 => k u ρ3 H3 (x1.step r1 x3) r3 d3) fun _ _ z => W.mono x1 r1 z⟩
theorem t1o {fa : Env' → Hq → R (D × Hq)} {g : D → Hq → Option (D × Hq)} {σ : L2.St} (t : TEk K W (fun s h => (fa s h).bind fun p => lift (g p.1 p.2)) σ H Q) :
    tUn (rD1 K g) (TEk K W fa) σ H Q := by
  obtain ⟨Fr, ρ, s, h, r, sr, ok⟩ := t1 (g := fun d h => lift (g d h)) t
  refine ⟨Fr, ρ, s, h, r, sr, ok.mono (fun p q v ρ1 H1 x1 r1 d1 => ?_) fun _ _ z => z⟩
  obtain ⟨Fr, ρ, h, d, r, d1, ok⟩ := q v ρ1 H1 x1 r1 d1
  exact ⟨Fr, ρ, h, d, r, d1, okR_lift ok⟩
end

/-! ### operators -/
section
variable {X : Cx}
theorem op_int2 {f : Value → Value → Sem Value} {C : Int → Int → Bool} {C' : Int → Int → Prop} {g : Int → Int → Int} (o : OpR X f (rI C' fun i j => .int (g i j))) (hc : ∀ i j, C i j = true → C' i j) : OpR X f (rD X.K (int2 C g)) :=
  OpR.imp o fun x y H Q ⟨Fr, ρ, h, d, e, r, d1, d2, p, q, k⟩ => by
    unfold int2 at q
    split at q
    · rename_i i j
      split at q
      · rename_i c
        cases q
        exact ⟨i, j, rd_int.mp d1, rd_int.mp d2, hc i j c, k.same r (rd_int.mpr rfl)⟩
      · cases q
    · cases q
theorem op_int20 {f : Value → Value → Sem Value} {C : Int → Int → Bool} {g : Int → Int → Int} (o : OpR X f (rI0 fun i j => .int (g i j))) : OpR X f (rD X.K (int2 C g)) :=
  OpR.imp o fun x y H Q ⟨Fr, ρ, h, d, e, r, d1, d2, p, q, k⟩ => by
    unfold int2 at q
    split at q
    · rename_i i j
      split at q
      · cases q
        exact ⟨i, j, rd_int.mp d1, rd_int.mp d2, k.same r (rd_int.mpr rfl)⟩
      · cases q
    · cases q
theorem op_addD {live : Bool} : OpR X (binaryOp .Add) (rD X.K (addD live)) := by
  refine OpR.imp (op_add.or (op_add_str.or (op_catA.or (op_cat.or op_catF)))) fun x y H Q ⟨Fr, ρ, h, d, e, r, d1, d2, p, q, k⟩ => ?_
  unfold addD at q
  split at q
  · cases q
    exact .inl ⟨_, _, rd_int.mp d1, rd_int.mp d2, k.same r (rd_int.mpr rfl)⟩
  · split at q
    · rename_i hl
      cases q
      exact .inr (.inl ⟨_, _, rd_str.mp d1, rd_str.mp d2, lineOk_le hl, k.same r (rd_str.mpr rfl)⟩)
    · cases q
  · split at q
    · rename_i hl
      cases q
      obtain ⟨a, xs, rfl, s1, q1⟩ := d1.sqT
      obtain ⟨b, ys, rfl, s2, q2⟩ := d2.sqT
      refine .inr (.inr (.inl ⟨a, b, xs, ys, rfl, rfl, s1, s2, by rw [← q1.length, ← q2.length]; exact lineOk_le hl, fun e0 => ?_, fun _ e0 => ?_, fun _ _ p hp => k.tup r (q1.append q2) hp⟩))
      · have l0 := q1.length
        rw [e0, List.length_nil, List.length_eq_zero_iff] at l0
        subst l0
        exact k.same r (by simpa using d2)
      · have l0 := q2.length
        rw [e0, List.length_nil, List.length_eq_zero_iff] at l0
        subst l0
        exact k.same r (by simpa using d1)
    · cases q
  · rename_i i j
    split at q
    · rename_i hl
      cases q
      have d1' := d1
      have d2' := d2
      unfold RD at d1' d2'
      obtain ⟨a, rfl, k1⟩ := d1'
      obtain ⟨b, rfl, k2⟩ := d2'
      refine .inr (.inr (.inr (.inr ⟨a, b, _, _, rfl, rfl, k1.sqT, k2.sqT, by rw [List.length_map, List.length_map]; exact lineOk_le hl, fun e0 => ?_, fun _ e0 => ?_, fun _ _ p o hp ho => ?_⟩)))
      · have l0 : i = [] := List.map_eq_nil_iff.mp e0
        subst l0
        exact k.same r (by simpa using d2)
      · have l0 : j = [] := List.map_eq_nil_iff.mp e0
        subst l0
        exact k.same r (by simpa using d1)
      · rw [← List.map_append]
        exact k.ktp r hp ho
    · cases q
  · split at q
    · rename_i i j h1 h2
      split at q
      · rename_i hl
        obtain ⟨a, xs, rfl, s1, q1⟩ := r.lstOf d1 h1
        obtain ⟨b, ys, rfl, s2, q2⟩ := r.lstOf d2 h2
        exact .inr (.inr (.inr (.inl ⟨a, b, xs, ys, rfl, rfl, s1, s2, by rw [← q1.length, ← q2.length]; exact lineOk_le hl, fun p hp => k.lst q r (q1.append q2) hp⟩)))
      · cases q
    · cases q

theorem mulOk_ok {i j : Int} (h : mulOk i j = true) : CMul i j ∨ CMulW i j := by
  unfold mulOk at h
  simp only [Bool.or_eq_true, decide_eq_true_eq, Bool.and_eq_true, wide] at h
  rcases h with (h | h) | h
  · exact .inl (.inl h)
  · exact .inl (.inr h)
  · refine .inr ?_
    unfold CMulW; omega
theorem op_repB : OpR X (binaryOp .Mult) (rI (fun i j => CMul i j ∨ CMulW i j) fun i j => .int (i * j)) :=
  OpR.imp (op_mul.or op_mulW) fun x y H Q ⟨i, j, e1, e2, c, q⟩ => c.imp (fun c => ⟨i, j, e1, e2, c, q⟩) fun c => ⟨i, j, e1, e2, c, q⟩
theorem op_mulD {live : Bool} : OpR X (binaryOp .Mult) (rD X.K (mulD live)) := by
  refine OpR.imp (op_repB.or (op_repT.or (op_rep.or (op_rep1.or (op_rep0.or op_repF))))) fun x y H Q ⟨Fr, ρ, h, d, e, r, d1, d2, p, q, k⟩ => ?_
  unfold mulD at q
  split at q
  · rename_i j
    split at q
    · split at q
      · rename_i c
        cases q
        exact .inl ⟨_, _, rd_int.mp d1, rd_int.mp d2, mulOk_ok c, k.same r (rd_int.mpr rfl)⟩
      · cases q
    · split at q
      · rename_i c
        cases q
        obtain ⟨a, xs, rfl, s1, q1⟩ := d1.sqT
        have hne : xs ≠ [] := fun z => c.1 (by
          have l0 := q1.length
          rw [z, List.length_nil, List.length_eq_zero_iff] at l0
          exact l0)
        by_cases h2 : 2 ≤ j
        · exact .inr (.inl ⟨a, j, xs, rfl, rd_int.mp d2, s1, hne, h2, c.2.2.1, by rw [← q1.length]; exact c.2.2.2, fun p hp => k.tup r (q1.rep _) hp⟩)
        by_cases h1 : j = 1
        · subst h1
          exact .inr (.inr (.inr (.inl ⟨a, xs, rfl, rd_int.mp d2, s1, k.same r (by simpa using d1)⟩)))
        · have e0 : j.toNat = 0 := by omega
          rw [e0] at k
          exact .inr (.inr (.inr (.inr (.inl ⟨a, j, xs, rfl, rd_int.mp d2, s1, hne, c.2.1, by omega, fun p hp => k.tup r RDs.nil hp⟩))))
      · cases q
    · rename_i i
      split at q
      · rename_i c
        cases q
        have d1' := d1
        unfold RD at d1'
        obtain ⟨a, rfl, k1⟩ := d1'
        have hne : i.map V.int ≠ [] := fun z => c.1 (List.map_eq_nil_iff.mp z)
        by_cases h2 : 2 ≤ j
        · refine .inr (.inr (.inr (.inr (.inr ⟨a, j, _, rfl, rd_int.mp d2, k1.sqT, hne, h2, c.2.2.1, by rw [List.length_map]; exact c.2.2.2, fun p o hp ho => ?_⟩))))
          have e : (List.replicate j.toNat (i.map V.int)).flatten = ((List.replicate j.toNat i).flatten).map V.int := by rw [List.map_flatten, List.map_replicate]
          rw [e]
          exact k.ktp r hp ho
        · have e1 : j = 1 := by omega
          subst e1
          exact .inr (.inr (.inr (.inl ⟨a, _, rfl, rd_int.mp d2, k1.sqT, k.same r (by simpa using d1)⟩)))
      · cases q
    · split at q
      · rename_i i h1
        split at q
        · rename_i c
          obtain ⟨a, xs, rfl, s1, q1⟩ := r.lstOf d1 h1
          exact .inr (.inr (.inl ⟨a, j, xs, rfl, rd_int.mp d2, s1, c.1, c.2.1, by rw [← q1.length]; exact lineOk_le c.2.2, fun p hp => k.lst q r (q1.rep _) hp⟩))
        · cases q
      · cases q
  · cases q
theorem op_none {f : Value → Value → Sem Value} : OpR X f (rD X.K fun _ _ _ => none) := fun _ _ _ _ _ _ _ _ _ _ _ _ ⟨_, _, _, _, _, _, _, _, _, q, _⟩ => nomatch q
theorem op_bin (op : Operator) (live : Bool) : OpR X (binaryOp op) (rD X.K (binop op live)) := by
  cases op
  case Add => exact op_addD
  case Sub => exact op_int20 op_sub
  case Mult => exact op_mulD
  case FloorDiv => exact op_int2 op_fdivW fun i j h => (of_decide_eq_true h : 0 < j ∧ j.natAbs.log2 < 9000)
  case Mod => exact op_int2 op_mod fun i j h => of_decide_eq_true h
  case Pow => exact op_int2 op_pow fun i j h => (of_decide_eq_true h : 0 ≤ j ∧ j ≤ 1000000 ∧ i.natAbs < 2 ^ 64)
  case LShift => exact op_int2 op_shl fun i j h => (of_decide_eq_true h : 0 ≤ j ∧ j ≤ 1000000 ∧ i.natAbs < 2 ^ 64)
  case RShift => exact op_int2 op_shr fun i j h => of_decide_eq_true h
  case BitAnd => exact op_int20 op_and
  all_goals exact op_none
theorem un_negD : UnR X (unaryOp .USub) (rD1 X.K negD) :=
  UnR.imp un_neg fun x H Q ⟨Fr, ρ, h, d, r, d1, p, q, k⟩ => by
    unfold negD at q
    split at q
    · cases q; exact ⟨_, rd_int.mp d1, k.same r (rd_int.mpr rfl)⟩
    · cases q

/-! ### data as trees -/
section
variable {K : PySem.W.Frag} {Fr ρ : List Addr} {H : Hp} {h : Hq}
theorem dp_ints {K : PySem.W.Frag} {H : Hp} : ∀ ns : List Int, DpAll K H (ns.map V.int) (ns.map PyData.int)
  | [] => .nil
  | n :: ns => .cons (.int n) (dp_ints ns)
mutual
theorem RD.dp : ∀ (d : D) (p : PyData) (v : V), D.py d = some p → RD K Fr ρ H d v → Dp K H v p
  | .non, _, _, e, r => by unfold D.py at e; cases e; unfold RD at r; subst r; exact .non
  | .bl _, _, _, e, r => by unfold D.py at e; cases e; unfold RD at r; subst r; exact .bl _
  | .int _, _, _, e, r => by unfold D.py at e; cases e; unfold RD at r; subst r; exact .int _
  | .str _, _, _, e, r => by unfold D.py at e; cases e; unfold RD at r; subst r; exact .str _
  | .tup ds, _, _, e, r => by
    unfold D.py at e
    obtain ⟨ps, e1, rfl⟩ := Option.map_eq_some_iff.mp e
    obtain ⟨a, vs, rfl, s, q⟩ := r.sqT
    exact .tup s (RDs.dps ds ps vs e1 q)
  | .lst ds, _, _, e, r => by
    unfold D.py at e
    obtain ⟨ps, e1, rfl⟩ := Option.map_eq_some_iff.mp e
    obtain ⟨a, vs, rfl, s, q⟩ := r.sqL
    exact .lst (.of s) (RDs.dps ds ps vs e1 q)
  | .scr _, _, _, e, _ => by unfold D.py at e; cases e
  | .ktp ns, _, _, e, r => by
    unfold D.py at e; cases e
    unfold RD at r
    obtain ⟨a, rfl, k⟩ := r
    exact .tup k.sqT (dp_ints ns)
  | .kpp ps, _, _, e, r => by
    unfold D.py at e; cases e
    unfold RD at r
    obtain ⟨a, rfl, o, qs, k, d, n, q⟩ := r
    refine .tup (.inl (.inr ⟨o, k⟩)) ?_
    clear k
    induction q with
    | nil => exact .nil
    | @cons q p qs ps h t ih => exact .cons (.tup (.of h.1) (dp_ints [p.1, p.2])) ih
  | .ref _, _, _, e, _ => by unfold D.py at e; cases e
  | .dct _, _, _, e, _ => by unfold D.py at e; cases e
  | .exn _ _, _, _, e, _ => by unfold D.py at e; cases e
theorem RDs.dps : ∀ (ds : List D) (ps : List PyData) (vs : List V), D.pys ds = some ps → RDs K Fr ρ H ds vs → DpAll K H vs ps
  | [], _, _, e, r => by unfold D.pys at e; cases e; unfold RDs at r; subst r; exact .nil
  | d :: ds, _, _, e, r => by
    unfold D.pys at e
    split at e
    · rename_i a b e1 e2
      cases e
      unfold RDs at r
      obtain ⟨v, t, rfl, k, q⟩ := r
      exact .cons (RD.dp d _ _ e1 k) (RDs.dps ds _ _ e2 q)
    · cases e
end
def Melts (K : PySem.W.Frag) (Fr ρ : List Addr) (H : Hp) (g : List D → Option (List D)) : Prop := ∀ ds ds' ps vs, g ds = some ds' → D.pys ds' = some ps → RDs K Fr ρ H ds vs → DpAll K H vs ps
mutual
theorem melt_dp (r0 : HR K Fr ρ h H) {g : List D → Option (List D)} (hg : Melts K Fr ρ H g) : ∀ (d d' : D) (p : PyData) (v : V), D.melt g h d = some d' → D.py d' = some p → RD K Fr ρ H d v → Dp K H v p
  | .non, _, _, _, m, e, r => by unfold D.melt at m; cases m; exact RD.dp _ _ _ e r
  | .bl _, _, _, _, m, e, r => by unfold D.melt at m; cases m; exact RD.dp _ _ _ e r
  | .int _, _, _, _, m, e, r => by unfold D.melt at m; cases m; exact RD.dp _ _ _ e r
  | .str _, _, _, _, m, e, r => by unfold D.melt at m; cases m; exact RD.dp _ _ _ e r
  | .scr _, _, _, _, m, e, r => by unfold D.melt at m; cases m; exact RD.dp _ _ _ e r
  | .ktp _, _, _, _, m, e, r => by unfold D.melt at m; cases m; exact RD.dp _ _ _ e r
  | .kpp _, _, _, _, m, e, r => by unfold D.melt at m; cases m; exact RD.dp _ _ _ e r
  | .tup ds, _, _, _, m, e, r => by
    unfold D.melt at m
    obtain ⟨es, e1, rfl⟩ := Option.map_eq_some_iff.mp m
    unfold D.py at e
    obtain ⟨ps, e2, rfl⟩ := Option.map_eq_some_iff.mp e
    obtain ⟨a, vs, rfl, s, q⟩ := r.sqT
    exact .tup s (melts_dp r0 hg ds es ps vs e1 e2 q)
  | .lst ds, _, _, _, m, e, r => by
    unfold D.melt at m
    obtain ⟨es, e1, rfl⟩ := Option.map_eq_some_iff.mp m
    unfold D.py at e
    obtain ⟨ps, e2, rfl⟩ := Option.map_eq_some_iff.mp e
    obtain ⟨a, vs, rfl, s, q⟩ := r.sqL
    exact .lst (.of s) (melts_dp r0 hg ds es ps vs e1 e2 q)
  | .ref n, _, _, _, m, e, r => by
    unfold D.melt at m
    split at m
    · rename_i ds hn
      obtain ⟨es, e1, rfl⟩ := Option.map_eq_some_iff.mp m
      unfold D.py at e
      obtain ⟨ps, e2, rfl⟩ := Option.map_eq_some_iff.mp e
      obtain ⟨a, vs, rfl, _, s, q⟩ := r0.lst r hn
      exact .lst (.of s) (hg ds es ps vs e1 e2 q)
    · cases m
  | .dct _, _, _, _, m, e, _ => by
    unfold D.melt at m
    obtain ⟨es, _, rfl⟩ := Option.map_eq_some_iff.mp m
    unfold D.py at e
    cases e
  | .exn _ _, _, _, _, m, e, _ => by
    unfold D.melt at m
    obtain ⟨es, _, rfl⟩ := Option.map_eq_some_iff.mp m
    unfold D.py at e
    cases e
theorem melts_dp (r0 : HR K Fr ρ h H) {g : List D → Option (List D)} (hg : Melts K Fr ρ H g) : ∀ (ds ds' : List D) (ps : List PyData) (vs : List V), D.melts g h ds = some ds' → D.pys ds' = some ps → RDs K Fr ρ H ds vs → DpAll K H vs ps
  | [], _, _, _, m, e, r => by unfold D.melts at m; cases m; exact RDs.dps _ _ _ e r
  | d :: ds, _, _, _, m, e, r => by
    unfold D.melts at m
    split at m
    · rename_i a b e1 e2
      cases m
      unfold D.pys at e
      split at e
      · rename_i a b e3 e4
        cases e
        unfold RDs at r
        obtain ⟨v, t, rfl, k, q⟩ := r
        exact .cons (melt_dp r0 hg d _ _ _ e1 e3 k) (melts_dp r0 hg ds _ _ _ e2 e4 q)
      · cases e
    · cases m
end
theorem meltN_dp (r0 : HR K Fr ρ h H) : ∀ k, Melts K Fr ρ H (meltN h k)
  | 0 => fun ds ds' ps vs m e r => by
    unfold meltN at m
    split at m
    · cases m; exact RDs.dps _ _ _ e r
    · cases m
  | k + 1 => fun ds ds' ps vs m e r => melts_dp r0 (meltN_dp r0 k) ds ds' ps vs m e r
theorem HR.dp (r0 : HR K Fr ρ h H) {d : D} {p : PyData} {v : V} (e : pyOf h d = some p) (r : RD K Fr ρ H d v) : Dp K H v p := by
  unfold pyOf melt1 at e
  split at e
  · rename_i x hx
    have e : D.py x = some p := e
    have q := meltN_dp r0 3 [d] [x] [p] [v] hx (by simp [D.pys, e]) (.cons r .nil)
    cases q with
    | cons a _ => exact a
  · cases e
end

/-! ### comparisons -/
theorem op_intC {f : Value → Value → Sem Value} {g : Int → Int → Bool} (o : OpR X f (rI0 fun i j => .bl (g i j))) : OpR X f (rD X.K (intC g)) :=
  OpR.imp o fun x y H Q ⟨Fr, ρ, h, d, e, r, d1, d2, p, q, k⟩ => by
    unfold intC at q
    split at q
    · cases q
      exact ⟨_, _, rd_int.mp d1, rd_int.mp d2, k.same r (rd_bl.mpr rfl)⟩
    · cases q
theorem ofO_some {α : Type} {h : Hq} {o : Option α} {p : α × Hq} (e : ofO h o = some p) : o = some p.1 ∧ p.2 = h := by
  cases o with
  | none => cases e
  | some a => cases e; exact ⟨rfl, rfl⟩
section
variable {K : PySem.W.Frag} {Fr ρ : List Addr} {H : Hp} {h : Hq}
theorem scal_of {d e : D} {x y : V} {b : Bool} (s : scalEq d e = some b) (r1 : RD K Fr ρ H d x) (r2 : RD K Fr ρ H e y) : scal x y = true ∧ decide (x = y) = b := by
  unfold scalEq at s
  split at s
  · cases s; rw [rd_non.mp r1, rd_non.mp r2]; exact ⟨rfl, by simp⟩
  · cases s; rw [rd_int.mp r1, rd_int.mp r2]; exact ⟨rfl, dec_int⟩
  · cases s; rw [rd_str.mp r1, rd_str.mp r2]; exact ⟨rfl, dec_str⟩
  · cases s; rw [rd_bl.mp r1, rd_bl.mp r2]; exact ⟨rfl, dec_bl⟩
  · cases s
theorem eq_of (r0 : HR K Fr ρ h H) {d e : D} {x y : V} {b : Bool} (s : eqD h d e = some b) (r1 : RD K Fr ρ H d x) (r2 : RD K Fr ρ H e y) :
    ((scal x y = true ∧ decide (x = y) = b) ∨ ∃ p q, Dp K H x p ∧ Dp K H y q ∧ SeqAt.shaped p = true ∧ SeqAt.shaped q = true ∧ PyData.eqv p q = b) ∨
    ∃ i j xs, x = .ref i ∧ y = .ref j ∧ SqL K H i xs ∧ SqL K H j [] ∧ xs.isEmpty = b := by
  unfold eqD at s
  split at s
  · rename_i c hc
    cases s
    exact .inl (.inl (scal_of hc r1 r2))
  · split at s
    · rename_i p q hp hq
      unfold eqPy at s
      split at s
      · rename_i c
        cases s
        rw [Bool.and_eq_true] at c
        exact .inl (.inr ⟨p, q, r0.dp hp r1, r0.dp hq r2, c.1, c.2, rfl⟩)
      · cases s
    · unfold eqNil at s
      split at s
      · rename_i ds e1 e2
        cases s
        obtain ⟨i, xs, rfl, k1, q1⟩ := r0.lstOf r1 e1
        obtain ⟨j, ys, rfl, k2, q2⟩ := r0.lstOf r2 e2
        unfold RDs at q2
        subst q2
        refine .inr ⟨i, j, xs, rfl, rfl, .of k1, .of k2, ?_⟩
        have := q1.length
        cases ds <;> cases xs <;> simp_all
      · cases s
end
/-- a list beside the empty one -/
def rEq0 (K : PySem.W.Frag) (g : Bool → Bool) : R2 := fun x y H Q => ∃ i j xs, x = V.ref i ∧ y = V.ref j ∧ SqL K H i xs ∧ SqL K H j [] ∧ Q (.bl (g xs.isEmpty)) H
theorem op_eqN (hu : X.A.units + 64 < cLine) : OpR X (compareOp .Eq) (rEq0 X.K fun b => b) := by
  intro pins s σ H x y v u Q I rx ry ⟨a, b, xs, e1, e2, sa, sb, q⟩
  subst e1 e2
  obtain rfl : v = Value.ref a := rx
  obtain rfl : u = Value.ref b := ry
  obtain ⟨its, rv, hl, _⟩ := I.list sa
  obtain ⟨jts, rw', hm, _⟩ := I.list sb
  have ej : jts = [] := by cases rw'; rfl
  subst ej
  cases xs with
  | nil =>
    have ei : its = [] := by cases rv; rfl
    subst ei
    exact SeqAt.RcAt.lists (e := fun _ => true) hl.isList hm.isList rfl (by omega) (fun j h1 => absurd h1 (by simp)) X.prog X.w _ _ ⟨.bl _, H, I, rfl, q⟩
  | cons x0 xs =>
    have : its.length = xs.length + 1 := by have := rv.length; simpa using this.symm
    exact SeqAt.RcAt.lists_lengths hl.isList hm.isList (by simp [this]) (by omega) X.prog X.w _ _ ⟨.bl _, H, I, rfl, q⟩
theorem op_neN (hu : X.A.units + 64 < cLine) : OpR X (compareOp .NotEq) (rEq0 X.K fun b => !b) := by
  intro pins s σ H x y v u Q I rx ry ⟨a, b, xs, e1, e2, sa, sb, q⟩
  subst e1 e2
  obtain rfl : v = Value.ref a := rx
  obtain rfl : u = Value.ref b := ry
  obtain ⟨its, rv, hl, _⟩ := I.list sa
  obtain ⟨jts, rw', hm, _⟩ := I.list sb
  have ej : jts = [] := by cases rw'; rfl
  subst ej
  cases xs with
  | nil =>
    have ei : its = [] := by cases rv; rfl
    subst ei
    exact SeqAt.RcNeAt.lists (e := fun _ => true) hl.isList hm.isList rfl (by omega) (fun j h1 => absurd h1 (by simp)) X.prog X.w _ _ ⟨.bl _, H, I, rfl, q⟩
  | cons x0 xs =>
    have : its.length = xs.length + 1 := by have := rv.length; simpa using this.symm
    exact SeqAt.RcNeAt.lists_lengths hl.isList hm.isList (by simp [this]) (by omega) X.prog X.w _ _ ⟨.bl _, H, I, rfl, q⟩
theorem op_eqE (hu : X.A.units + 64 < cLine) : OpR X (compareOp .Eq) (rD X.K (cmpop .Eq)) := by
  refine OpR.imp ((op_eq.or (op_eqD hu)).or (op_eqN hu)) fun x y H Q ⟨Fr, ρ, h, d, e, r, d1, d2, p, q, k⟩ => ?_
  obtain ⟨q1, q2⟩ := ofO_some (show ofO h ((eqD h d e).map D.bl) = some p from q)
  obtain ⟨b, e1, e2⟩ := Option.map_eq_some_iff.mp q1
  obtain ⟨p1, p2⟩ := p
  dsimp only at q2 e2
  subst q2 e2
  rcases eq_of r e1 d1 d2 with (⟨s, e3⟩ | ⟨u, w, a1, a2, a3, a4, e3⟩) | ⟨i, j, xs, a1, a2, a3, a4, e3⟩
  · exact .inl (.inl ⟨s, by rw [e3]; exact k.same r (rd_bl.mpr rfl)⟩)
  · exact .inl (.inr ⟨u, w, a1, a2, a3, a4, by rw [e3]; exact k.same r (rd_bl.mpr rfl)⟩)
  · exact .inr ⟨i, j, xs, a1, a2, a3, a4, by rw [e3]; exact k.same r (rd_bl.mpr rfl)⟩
theorem op_neE (hu : X.A.units + 64 < cLine) : OpR X (compareOp .NotEq) (rD X.K (cmpop .NotEq)) := by
  refine OpR.imp ((op_ne.or (op_neD hu)).or (op_neN hu)) fun x y H Q ⟨Fr, ρ, h, d, e, r, d1, d2, p, q, k⟩ => ?_
  obtain ⟨q1, q2⟩ := ofO_some (show ofO h ((eqD h d e).map fun b => D.bl (!b)) = some p from q)
  obtain ⟨b, e1, e2⟩ := Option.map_eq_some_iff.mp q1
  obtain ⟨p1, p2⟩ := p
  dsimp only at q2 e2
  subst q2 e2
  rcases eq_of r e1 d1 d2 with (⟨s, e3⟩ | ⟨u, w, a1, a2, a3, a4, e3⟩) | ⟨i, j, xs, a1, a2, a3, a4, e3⟩
  · exact .inl (.inl ⟨s, by rw [e3]; exact k.same r (rd_bl.mpr rfl)⟩)
  · exact .inl (.inr ⟨u, w, a1, a2, a3, a4, by rw [e3]; exact k.same r (rd_bl.mpr rfl)⟩)
  · exact .inr ⟨i, j, xs, a1, a2, a3, a4, by rw [e3]; exact k.same r (rd_bl.mpr rfl)⟩
end
end FF

/-! FFSE2: comparisons, subscripts, slices. -/
namespace FF
open PySem PySem.Spec PyProof.Rows L2

section
variable {K : PySem.W.Frag} {Fr ρ : List Addr} {H : Hp} {h : Hq}
theorem kv_of_key {d : D} {k : Key} {v : V} (e : keyOf d = some k) (r : RD K Fr ρ H d v) : v = kV k := by
  unfold keyOf at e
  split at e
  · cases e; exact rd_int.mp r
  · cases e; exact rd_str.mp r
  · cases e
theorem kvs_of_keys : ∀ {ds : List D} {ks : List Key} {vs : List V}, keysOf ds = some ks → RDs K Fr ρ H ds vs → vs = ks.map kV
  | [], _, _, e, r => by unfold keysOf at e; cases e; unfold RDs at r; exact r
  | d :: ds, _, _, e, r => by
    unfold keysOf at e
    split at e
    · rename_i k ks e1 e2
      cases e
      unfold RDs at r
      obtain ⟨v, t, rfl, a, b⟩ := r
      rw [kv_of_key e1 a, kvs_of_keys e2 b]; rfl
    · cases e
section
variable {κ : Type} [DecidableEq κ]
theorem KR.nil : KR K Fr ρ H ([] : List (κ × D)) [] := ⟨rfl, RDs.nil⟩
theorem KR.cases {p : κ × D} {kvs : List (κ × D)} {vs : List (κ × V)} (r : KR K Fr ρ H (p :: kvs) vs) : ∃ v t, vs = (p.1, v) :: t ∧ RD K Fr ρ H p.2 v ∧ KR K Fr ρ H kvs t := by
  obtain ⟨e, q⟩ := r
  cases vs with
  | nil => simp at e
  | cons a t =>
    simp only [List.map_cons, List.cons.injEq] at e
    rw [List.map_cons, List.map_cons] at q
    unfold RDs at q
    obtain ⟨v, t', e2, a1, b1⟩ := q
    simp only [List.cons.injEq] at e2
    obtain ⟨e2, e3⟩ := e2
    subst e3
    refine ⟨a.2, t, ?_, by rw [e2]; exact a1, e.2, b1⟩
    rw [e.1]
theorem KR.cons {k : κ} {d : D} {v : V} {kvs : List (κ × D)} {vs : List (κ × V)} (a : RD K Fr ρ H d v) (b : KR K Fr ρ H kvs vs) : KR K Fr ρ H ((k, d) :: kvs) ((k, v) :: vs) :=
  ⟨by simp [b.1], by rw [List.map_cons, List.map_cons]; exact .cons a b.2⟩
theorem KR.length {kvs : List (κ × D)} {vs : List (κ × V)} (r : KR K Fr ρ H kvs vs) : kvs.length = vs.length := by
  have := congrArg List.length r.1; simpa using this
theorem KR.get {k : κ} : ∀ {kvs : List (κ × D)} {vs : List (κ × V)}, KR K Fr ρ H kvs vs → (kget kvs k = none ∧ valV vs k = none) ∨ ∃ d v, kget kvs k = some d ∧ valV vs k = some v ∧ RD K Fr ρ H d v
  | [], vs, r => by
    have := r.length
    cases vs with
    | nil => exact .inl ⟨rfl, rfl⟩
    | cons _ _ => simp at this
  | p :: kvs, vs, r => by
    obtain ⟨v, t, rfl, a, b⟩ := r.cases
    by_cases e : p.1 = k
    · exact .inr ⟨p.2, v, by simp [kget, e], by simp [valV, e], a⟩
    · have e1 : kget (p :: kvs) k = kget kvs k := by simp [kget, List.find?_cons, e]
      have e2 : valV ((p.1, v) :: t) k = valV t k := by simp [valV, List.find?_cons, e]
      rw [e1, e2]
      exact KR.get b
theorem KR.isSome {k : κ} {kvs : List (κ × D)} {vs : List (κ × V)} (r : KR K Fr ρ H kvs vs) : (valV vs k).isSome = (kget kvs k).isSome := by
  rcases r.get (k := k) with ⟨a, b⟩ | ⟨d, v, a, b, _⟩ <;> rw [a, b] <;> rfl
theorem KR.app {kvs : List (κ × D)} {vs : List (κ × V)} {k : κ} {d : D} {v : V} (r : KR K Fr ρ H kvs vs) (a : RD K Fr ρ H d v) : KR K Fr ρ H (kvs ++ [(k, d)]) (vs ++ [(k, v)]) :=
  ⟨by simp [r.1], by rw [List.map_append, List.map_append]; exact r.2.append (.cons a .nil)⟩
theorem KR.repl {k : κ} {d : D} {v : V} (a : RD K Fr ρ H d v) : ∀ {kvs : List (κ × D)} {vs : List (κ × V)}, KR K Fr ρ H kvs vs →
    KR K Fr ρ H (kvs.map fun kv => if kv.1 = k then (kv.1, d) else kv) (vs.map fun kv => if kv.1 = k then (kv.1, v) else kv)
  | [], vs, r => by
    have := r.length
    cases vs with
    | nil => exact .nil
    | cons _ _ => simp at this
  | p :: kvs, vs, r => by
    obtain ⟨w, t, rfl, a1, b⟩ := r.cases
    rw [List.map_cons, List.map_cons]
    by_cases e : p.1 = k
    · rw [if_pos e, if_pos e]; exact .cons a (KR.repl a b)
    · rw [if_neg e, if_neg e]; exact KR.cons (k := p.1) a1 (KR.repl a b)
theorem KR.anyKey {k : κ} {kvs : List (κ × D)} {vs : List (κ × V)} (r : KR K Fr ρ H kvs vs) : (vs.any fun kv => decide (kv.1 = k)) = kvs.any fun kv => decide (kv.1 = k) := by
  have e1 : (vs.any fun kv => decide (kv.1 = k)) = (vs.map (·.1)).any fun x => decide (x = k) := by rw [List.any_map]; rfl
  have e2 : (kvs.any fun kv => decide (kv.1 = k)) = (kvs.map (·.1)).any fun x => decide (x = k) := by rw [List.any_map]; rfl
  rw [e1, e2, r.1]
theorem KR.put {k : κ} {d : D} {v : V} {kvs : List (κ × D)} {vs : List (κ × V)} (r : KR K Fr ρ H kvs vs) (a : RD K Fr ρ H d v) : KR K Fr ρ H (kput kvs k d) (putK vs k v) := by
  unfold kput putK
  rw [r.anyKey]
  split
  · exact r.repl a
  · exact r.app a
theorem KR.drop {k : κ} : ∀ {kvs : List (κ × D)} {vs : List (κ × V)}, KR K Fr ρ H kvs vs → KR K Fr ρ H (kdrop kvs k) (dropK vs k)
  | [], vs, r => by
    have := r.length
    cases vs with
    | nil => exact .nil
    | cons _ _ => simp at this
  | p :: kvs, vs, r => by
    obtain ⟨w, t, rfl, a1, b⟩ := r.cases
    unfold kdrop dropK
    rw [List.filter_cons, List.filter_cons]
    have ih : KR K Fr ρ H (kdrop kvs k) (dropK t k) := KR.drop b
    unfold kdrop dropK at ih
    by_cases e : p.1 = k
    · simp only [e, ne_eq, not_true_eq_false, decide_false, Bool.false_eq_true, if_false]; exact ih
    · simp only [ne_eq, e, not_false_eq_true, decide_true, if_true]; exact KR.cons (k := p.1) a1 ih
end

/-! ### flat things in a sequence -/
theorem flat_of {d : D} {v : V} (r : RD K Fr ρ H d v) (f : flatD d = true) : flatV v = true := by
  cases d <;> first | (cases f; done) | skip
  · rw [rd_non.mp r]; rfl
  · rw [rd_bl.mp r]; rfl
  · rw [rd_int.mp r]; rfl
  · rw [rd_str.mp r]; rfl
theorem eqFl_of {d e : D} {x y : V} (r1 : RD K Fr ρ H d x) (r2 : RD K Fr ρ H e y) (f1 : flatD d = true) (f2 : flatD e = true) : eqV x y = eqFl d e := by
  cases d <;> first | (cases f1; done) | skip
  all_goals (cases e <;> first | (cases f2; done) | skip)
  all_goals (simp only [rd_non, rd_bl, rd_int, rd_str] at r1 r2; subst r1 r2; rfl)
theorem flats_of : ∀ {ds : List D} {vs : List V}, RDs K Fr ρ H ds vs → ds.all flatD = true → vs.all flatV = true
  | [], _, r, _ => by unfold RDs at r; subst r; rfl
  | d :: ds, _, r, f => by
    unfold RDs at r
    obtain ⟨v, t, rfl, a, b⟩ := r
    rw [List.all_cons, Bool.and_eq_true] at f ⊢
    exact ⟨flat_of a f.1, flats_of b f.2⟩
theorem anyFl_of {d : D} {x : V} (r : RD K Fr ρ H d x) (f : flatD d = true) : ∀ {ds : List D} {vs : List V}, RDs K Fr ρ H ds vs → ds.all flatD = true → inV x vs = ds.any fun e => eqFl e d
  | [], _, r, _ => by unfold RDs at r; subst r; rfl
  | e :: ds, _, q, g => by
    unfold RDs at q
    obtain ⟨v, t, rfl, a, b⟩ := q
    rw [List.all_cons, Bool.and_eq_true] at g
    unfold inV
    rw [List.any_cons, List.any_cons, eqFl_of a r g.1 f]
    have := anyFl_of r f b g.2
    unfold inV at this
    rw [this]
end

section
variable {X : Cx}
/-- y in a dict, as an operator -/
def rDIn (neg : Bool) : R2 := fun y x H Q => ∃ a o, x = .ref a ∧ DGet H a y o ∧ Q (.bl (if neg then !o.isSome else o.isSome)) H
theorem op_dIn (hu : X.A.units + 1 < cLine) : OpR X (compareOp .In) (rDIn false) := by
  intro pins s σ H x y v u Q I rx ry hq
  obtain ⟨a, o, rfl, g, q⟩ := hq
  cases ry
  exact d_in hu I g rx fun s' I' => ⟨.bl _, H, I', rfl, q⟩
theorem op_dNotIn (hu : X.A.units + 1 < cLine) : OpR X (compareOp .NotIn) (rDIn true) := by
  intro pins s σ H x y v u Q I rx ry hq
  obtain ⟨a, o, rfl, g, q⟩ := hq
  cases ry
  exact d_notIn hu I g rx fun s' I' => ⟨.bl _, H, I', rfl, q⟩
section
variable {K : PySem.W.Frag} {Fr ρ : List Addr} {H : Hp} {h : Hq}
theorem in_of (r0 : HR K Fr ρ h H) {d e : D} {x y : V} {b : Bool} (s : inD h d e = some b) (r1 : RD K Fr ρ H d x) (r2 : RD K Fr ρ H e y) :
    (∃ i j, x = .str i ∧ y = .str j ∧ (!(Builtin.Str.occurrences j i 0 j.length 1).isEmpty) = b) ∨
    (∃ p xs, y = .ref p ∧ (SqL K H p xs ∨ SqT K H p xs) ∧ flatV x = true ∧ xs.all flatV = true ∧ inV x xs = b) ∨
    (∃ a o, y = .ref a ∧ DGet H a x o ∧ o.isSome = b) ∨
    (∃ d ps, Dp K H x d ∧ Dp K H y (.tuple ps) ∧ SeqAt.shaped d = true ∧ SeqAt.shaped (.tuple ps) = true ∧ d.depth ≤ 60 ∧ (ps.any fun z => PyData.eqv z d) = b) ∨
    ∃ d ps, Dp K H x d ∧ Dp K H y (.list ps) ∧ SeqAt.shaped d = true ∧ SeqAt.shaped (.list ps) = true ∧ (ps.any fun z => PyData.eqv z d) = b := by
  unfold inD at s
  split at s
  · split at s
    · cases s
      exact .inl ⟨_, _, rd_str.mp r1, rd_str.mp r2, rfl⟩
    · cases s
  · rename_i n
    split at s
    · rename_i kvs hn
      obtain ⟨k, e1, e2⟩ := Option.map_eq_some_iff.mp s
      obtain ⟨a, vs, rfl, _, e3, kr⟩ := r0.dct r2 hn
      refine .inr (.inr (.inl ⟨a, valV vs k, rfl, ?_, by rw [kr.isSome, e2]⟩))
      rw [kv_of_key e1 r1]
      exact .k e3
    · rename_i kvs hn
      split at s
      · rename_i ks
        obtain ⟨k, e1, e2⟩ := Option.map_eq_some_iff.mp s
        unfold RD at r2
        obtain ⟨a, rfl, ha⟩ := r2
        obtain ⟨b', hb, vs, e3, kr⟩ := r0.at' n _ hn
        rw [ha] at hb; cases hb
        obtain ⟨c, xs, rfl, e4, q⟩ := r1.tupl
        refine .inr (.inr (.inl ⟨a, valV vs k, rfl, ?_, by rw [kr.isSome, e2]⟩))
        rw [kvs_of_keys e1 q] at e4
        exact .t e3 e4
      · cases s
    · rename_i ds hn
      split at s
      · rename_i c
        cases s
        rw [Bool.and_eq_true] at c
        obtain ⟨a, vs, rfl, _, e3, q⟩ := r0.lst r2 hn
        exact .inr (.inl ⟨a, vs, rfl, .inl (.of e3), flat_of r1 c.1, flats_of q c.2, anyFl_of r1 c.1 q c.2⟩)
      · cases s
    · cases s
  · split at s
    · rename_i ds hd
      split at s
      · rename_i c
        cases s
        rw [Bool.and_eq_true] at c
        obtain ⟨a, vs, rfl, e3, q⟩ := r0.items r2 hd
        exact .inr (.inl ⟨a, vs, rfl, e3, flat_of r1 c.1, flats_of q c.2, anyFl_of r1 c.1 q c.2⟩)
      · split at s
        · rename_i d ps h1 h2
          split at s
          · rename_i c
            cases s
            rw [Bool.and_eq_true, Bool.and_eq_true, decide_eq_true_eq] at c
            exact .inr (.inr (.inr (.inl ⟨d, ps, r0.dp h1 r1, r0.dp h2 r2, c.1.1, c.1.2, c.2, rfl⟩)))
          · cases s
        · rename_i d ps h1 h2
          split at s
          · rename_i c
            cases s
            rw [Bool.and_eq_true] at c
            exact .inr (.inr (.inr (.inr ⟨d, ps, r0.dp h1 r1, r0.dp h2 r2, c.1, c.2, rfl⟩)))
          · cases s
        · cases s
    · cases s
end
def rInT (K : PySem.W.Frag) (g : Bool → Bool) : R2 := fun x y H Q => ∃ d ps, Dp K H x d ∧ Dp K H y (.tuple ps) ∧ SeqAt.shaped d = true ∧ SeqAt.shaped (.tuple ps) = true ∧ d.depth ≤ 60 ∧ Q (.bl (g (ps.any fun z => PyData.eqv z d))) H
theorem op_inT (hu : X.A.units + 64 < cLine) : OpR X (compareOp .In) (rInT X.K id) := by
  intro pins s σ H x y v u Q I rx ry h
  obtain ⟨d, ps, hd, he, sd, se, dl, q⟩ := h
  obtain ⟨as, r1⟩ := Dp.reads I d x v hd rx
  obtain ⟨bs, r2⟩ := Dp.reads I (.tuple ps) y u he ry
  exact SeqAt.in_tuple_reads r2 r1 (SeqAt.canLay_of_shaped se) (SeqAt.canLay_of_shaped sd) (by
    have : min (PyData.depthAll ps) d.depth ≤ d.depth := Nat.min_le_right _ _
    omega) ⟨.bl _, H, I, rfl, q⟩
theorem op_notInT (hu : X.A.units + 64 < cLine) : OpR X (compareOp .NotIn) (rInT X.K not) := by
  intro pins s σ H x y v u Q I rx ry h
  obtain ⟨d, ps, hd, he, sd, se, dl, q⟩ := h
  obtain ⟨as, r1⟩ := Dp.reads I d x v hd rx
  obtain ⟨bs, r2⟩ := Dp.reads I (.tuple ps) y u he ry
  exact SeqAt.notIn_tuple_reads r2 r1 (SeqAt.canLay_of_shaped se) (SeqAt.canLay_of_shaped sd) (by
    have : min (PyData.depthAll ps) d.depth ≤ d.depth := Nat.min_le_right _ _
    omega) ⟨.bl _, H, I, rfl, q⟩
theorem op_inD (hu : X.A.units + 65 < cLine) : OpR X (compareOp .In) (rD X.K (cmpop .In)) := by
  refine OpR.imp (op_in_str.or (op_in_seq.or ((op_dIn (by omega)).or ((op_inT (by omega)).or (L2.op_inD hu))))) fun x y H Q ⟨Fr, ρ, h, d, e, r, d1, d2, p, q, k⟩ => ?_
  obtain ⟨q1, q2⟩ := ofO_some (show ofO h ((inD h d e).map D.bl) = some p from q)
  obtain ⟨b, e1, e2⟩ := Option.map_eq_some_iff.mp q1
  obtain ⟨p1, p2⟩ := p
  dsimp only at q2 e2
  subst q2 e2
  rcases in_of r e1 d1 d2 with ⟨i, j, a1, a2, a3⟩ | ⟨p, xs, a1, a2, a3, a4, a5⟩ | ⟨a, o, a1, a2, a3⟩ | ⟨dd, ps, a1, a2, a3, a4, a5, a6⟩ | ⟨dd, ps, a1, a2, a3, a4, a5⟩
  · exact .inl ⟨i, j, a1, a2, by rw [a3]; exact k.same r (rd_bl.mpr rfl)⟩
  · exact .inr (.inl ⟨p, xs, a1, a2, a3, a4, by simp only [Bool.false_eq_true, if_false]; rw [a5]; exact k.same r (rd_bl.mpr rfl)⟩)
  · exact .inr (.inr (.inl ⟨a, o, a1, a2, by simp only [Bool.false_eq_true, if_false]; rw [a3]; exact k.same r (rd_bl.mpr rfl)⟩))
  · exact .inr (.inr (.inr (.inl ⟨dd, ps, a1, a2, a3, a4, a5, by rw [a6]; exact k.same r (rd_bl.mpr rfl)⟩)))
  · exact .inr (.inr (.inr (.inr ⟨dd, ps, a1, a2, a3, a4, by rw [a5]; exact k.same r (rd_bl.mpr rfl)⟩)))
theorem op_notInD (hu : X.A.units + 65 < cLine) : OpR X (compareOp .NotIn) (rD X.K (cmpop .NotIn)) := by
  refine OpR.imp (op_notin_str.or (op_notIn_seq.or ((op_dNotIn (by omega)).or ((op_notInT (by omega)).or (L2.op_notInD hu))))) fun x y H Q ⟨Fr, ρ, h, d, e, r, d1, d2, p, q, k⟩ => ?_
  obtain ⟨q1, q2⟩ := ofO_some (show ofO h ((inD h d e).map fun b => D.bl (!b)) = some p from q)
  obtain ⟨b, e1, e2⟩ := Option.map_eq_some_iff.mp q1
  obtain ⟨p1, p2⟩ := p
  dsimp only at q2 e2
  subst q2 e2
  rcases in_of r e1 d1 d2 with ⟨i, j, a1, a2, a3⟩ | ⟨p, xs, a1, a2, a3, a4, a5⟩ | ⟨a, o, a1, a2, a3⟩ | ⟨dd, ps, a1, a2, a3, a4, a5, a6⟩ | ⟨dd, ps, a1, a2, a3, a4, a5⟩
  · exact .inl ⟨i, j, a1, a2, by rw [a3]; exact k.same r (rd_bl.mpr rfl)⟩
  · exact .inr (.inl ⟨p, xs, a1, a2, a3, a4, by simp only [if_true]; rw [a5]; exact k.same r (rd_bl.mpr rfl)⟩)
  · exact .inr (.inr (.inl ⟨a, o, a1, a2, by simp only [if_true]; rw [a3]; exact k.same r (rd_bl.mpr rfl)⟩))
  · exact .inr (.inr (.inr (.inl ⟨dd, ps, a1, a2, a3, a4, a5, by rw [a6]; exact k.same r (rd_bl.mpr rfl)⟩)))
  · exact .inr (.inr (.inr (.inr ⟨dd, ps, a1, a2, a3, a4, by rw [a5]; exact k.same r (rd_bl.mpr rfl)⟩)))
theorem op_ltE (hu : X.A.units < cLine) : OpR X (compareOp .Lt) (rD X.K (cmpop .Lt)) := by
  refine OpR.imp (op_lt.or (op_ltT hu)) fun x y H Q ⟨Fr, ρ, h, d, e, r, d1, d2, p, q, k⟩ => ?_
  obtain ⟨q1, q2⟩ := ofO_some (show ofO h ((ltD d e).map D.bl) = some p from q)
  obtain ⟨b, e1, e2⟩ := Option.map_eq_some_iff.mp q1
  obtain ⟨p1, p2⟩ := p
  dsimp only at q2 e2
  subst q2 e2
  unfold ltD at e1
  split at e1
  · cases e1
    exact .inl ⟨_, _, rd_int.mp d1, rd_int.mp d2, k.same r (rd_bl.mpr rfl)⟩
  · split at e1
    · rename_i ns ms h1 h2
      cases e1
      obtain ⟨a, xs, rfl, s1, q1⟩ := d1.sqT
      obtain ⟨b, ys, rfl, s2, q2⟩ := d2.sqT
      rw [RDs.ints h1 q1] at s1
      rw [RDs.ints h2 q2] at s2
      exact .inr ⟨a, b, ns, ms, rfl, rfl, s1, s2, k.same r (rd_bl.mpr rfl)⟩
    · cases e1
  · cases e1
theorem isNon_of {K : PySem.W.Frag} {Fr ρ : List Addr} {H : Hp} {d : D} {x : V} (r : RD K Fr ρ H d x) : decide (x = .non) = isNon d := by
  cases d with
  | non => rw [rd_non.mp r]; rfl
  | bl b => rw [rd_bl.mp r]; rfl
  | int b => rw [rd_int.mp r]; rfl
  | str b => rw [rd_str.mp r]; rfl
  | tup ds => obtain ⟨a, _, rfl, _⟩ := r.tupl; rfl
  | lst ds => obtain ⟨a, _, rfl, _⟩ := r.sqL; rfl
  | scr ds => unfold RD at r; obtain ⟨a, rfl, _⟩ := r; rfl
  | ktp ds => unfold RD at r; obtain ⟨a, rfl, _⟩ := r; rfl
  | kpp ds => unfold RD at r; obtain ⟨a, rfl, _⟩ := r; rfl
  | ref ds => unfold RD at r; obtain ⟨a, rfl, _⟩ := r; rfl
  | dct _ => unfold RD at r; obtain ⟨_, _, a, rfl, _⟩ := r; rfl
  | exn _ _ => unfold RD at r; obtain ⟨_, ⟨a, _, _, _, rfl, _⟩, _⟩ := r; rfl
  | opq _ => unfold RD at r; obtain ⟨a, rfl, _⟩ := r; rfl
theorem op_cmp (hu : X.A.units + 65 < cLine) (op : CmpOp) : OpR X (compareOp op) (rD X.K (cmpop op)) := by
  cases op
  case Eq => exact op_eqE (by omega)
  case NotEq => exact op_neE (by omega)
  case Lt => exact op_ltE (by omega)
  case LtE => exact op_intC op_le
  case Gt => exact op_intC op_gt
  case GtE => exact op_intC op_ge
  case Is =>
    refine OpR.imp (op_isN.or op_isBl) fun x y H Q ⟨Fr, ρ, h, d, e, r, d1, d2, p, q, k⟩ => ?_
    have q : (if isNon e then some (D.bl (isNon d), h) else isBB id d e h) = some p := q
    split at q
    · rename_i hn
      cases q
      refine .inl ⟨of_decide_eq_true ((isNon_of d2).trans hn), ?_⟩
      rw [isNon_of d1]
      exact k.same r (rd_bl.mpr rfl)
    · unfold isBB at q
      split at q
      · cases q
        exact .inr ⟨_, _, rd_bl.mp d1, rd_bl.mp d2, k.same r (rd_bl.mpr rfl)⟩
      · cases q
  case IsNot =>
    refine OpR.imp (op_notN.or op_notBl) fun x y H Q ⟨Fr, ρ, h, d, e, r, d1, d2, p, q, k⟩ => ?_
    have q : (if isNon e then some (D.bl (!isNon d), h) else isBB not d e h) = some p := q
    split at q
    · rename_i hn
      cases q
      refine .inl ⟨of_decide_eq_true ((isNon_of d2).trans hn), ?_⟩
      rw [isNon_of d1]
      exact k.same r (rd_bl.mpr rfl)
    · unfold isBB at q
      split at q
      · cases q
        exact .inr ⟨_, _, rd_bl.mp d1, rd_bl.mp d2, k.same r (rd_bl.mpr rfl)⟩
      · cases q
  case In => exact op_inD (by omega)
  case NotIn => exact op_notInD (by omega)
end
end FF

/-! FFSE3: subscripts, slices, stores, built-ins by values. -/
namespace FF
open PySem PySem.Spec PyProof.Rows L2

section
variable {X : Cx}
theorem rds_at {K : PySem.W.Frag} {Fr ρ : List Addr} {H : Hp} {ds : List D} {vs : List V} {i : Int} {d : D} (r : RDs K Fr ρ H ds vs) (e : at? ds i = some d) : ∃ v, atI vs i = some v ∧ RD K Fr ρ H d v := by
  unfold at? atI at e
  obtain ⟨j, e1, e2⟩ := Option.bind_eq_some_iff.mp e
  obtain ⟨v, e3, q⟩ := r.get e2
  refine ⟨v, ?_, q⟩
  unfold atI
  rw [← r.length, e1]
  exact e3
/-- a subscript that is no dict's -/
def isDctRef (h : Hq) : D → Bool
  | .ref n => match h[n]? with | some (.dct _) => true | some (.dctT _) => true | _ => false
  | _ => false
theorem ix_plain : IxR X (rD X.K fun x i h => if isDctRef h x then none else ixD x i h) := by
  refine IxR.imp ix_seq fun x y H Q ⟨Fr, ρ, h, d, e, r, d1, d2, p, q, k⟩ => ?_
  dsimp only at q
  split at q
  · cases q
  · rename_i nd
    unfold ixD at q
    split at q
    · split at q
      · rename_i hl
        split at q
        · rename_i c hc
          cases q
          exact .inr (.inr ⟨_, _, c, rd_str.mp d1, rd_int.mp d2, lineOk_le hl, hc, k.same r (rd_str.mpr rfl)⟩)
        · cases q
      · cases q
    · rename_i n i
      split at q
      · rename_i ds hn
        split at q
        · obtain ⟨q1, q2⟩ := ofO_some q
          obtain ⟨a, vs, rfl, _, e3, rs⟩ := r.lst d1 hn
          obtain ⟨v, e4, e5⟩ := rds_at rs q1
          obtain ⟨p1, p2⟩ := p
          dsimp only at q2 e5
          subst q2
          exact .inl ⟨a, vs, _, v, rfl, rd_int.mp d2, .of e3, e4, k.same r e5⟩
        · cases q
      · rename_i kvs hn; exact absurd (by unfold isDctRef; dsimp only; rw [hn]) nd
      · rename_i kvs hn; exact absurd (by unfold isDctRef; dsimp only; rw [hn]) nd
      · cases q
    · split at q
      · rename_i ds hd
        obtain ⟨q1, q2⟩ := ofO_some q
        obtain ⟨a, vs, rfl, e3, rs⟩ := r.items d1 hd
        obtain ⟨v, e4, e5⟩ := rds_at rs q1
        obtain ⟨p1, p2⟩ := p
        dsimp only at q2 e5
        subst q2
        rcases e3 with e3 | e3
        · exact .inl ⟨a, vs, _, v, rfl, rd_int.mp d2, e3, e4, k.same r e5⟩
        · exact .inr (.inl ⟨a, vs, _, v, rfl, rd_int.mp d2, e3, e4, k.same r e5⟩)
      · cases q
    · cases q
theorem dget_of {K : PySem.W.Frag} {Fr ρ : List Addr} {H : Hp} {h : Hq} (r : HR K Fr ρ h H) {d e : D} {x y : V} {p : D × Hq} (d1 : RD K Fr ρ H d x) (d2 : RD K Fr ρ H e y) (nd : isDctRef h d = true) (q : ixD d e h = some p) :
    ∃ a v, x = .ref a ∧ DGet H a y (some v) ∧ RD K Fr ρ H p.1 v ∧ p.2 = h := by
  unfold isDctRef at nd
  split at nd
  · rename_i n
    unfold ixD at q
    dsimp only at q
    split at nd
    · rename_i kvs hn
      rw [hn] at q
      dsimp only at q
      split at q
      · rename_i k hk
        obtain ⟨q1, q2⟩ := ofO_some q
        obtain ⟨a, vs, rfl, _, e3, kr⟩ := r.dct d1 hn
        rcases kr.get (k := k) with ⟨z, _⟩ | ⟨d', v, z1, z2, z3⟩
        · rw [z] at q1; cases q1
        · rw [z1] at q1; cases q1
          refine ⟨a, v, rfl, ?_, z3, q2⟩
          rw [kv_of_key hk d2, ← z2]
          exact .k e3
      · cases q
    · rename_i kvs hn
      rw [hn] at q
      dsimp only at q
      split at q
      · split at q
        · rename_i ks k hk
          obtain ⟨q1, q2⟩ := ofO_some q
          unfold RD at d1
          obtain ⟨a, rfl, ha⟩ := d1
          obtain ⟨b', hb, vs, e3, kr⟩ := r.at' n _ hn
          rw [ha] at hb; cases hb
          obtain ⟨c, xs, rfl, e4, qs⟩ := d2.tupl
          rcases kr.get (k := k) with ⟨z, _⟩ | ⟨d', v, z1, z2, z3⟩
          · rw [z] at q1; cases q1
          · rw [z1] at q1; cases q1
            refine ⟨a, v, rfl, ?_, z3, q2⟩
            rw [kvs_of_keys hk qs] at e4
            rw [← z2]
            exact .t e3 e4
        · cases q
      · cases q
    · cases nd
  · cases nd
/-- one of two ways, by what was reckoned -/
theorem TEk.split2 {K : PySem.W.Frag} {W : EK K} {fa fb : Env' → Hq → R (D × Hq)} {g : D → D → Hq → Option (D × Hq)} (A : D → D → Hq → Bool) {σ : L2.St} {H : Hp} {Q : VK}
    (t : TEk K W (fun s h => (fa s h).bind fun p => (fb s p.2).bind fun q => lift (g p.1 q.1 q.2)) σ H Q) :
    TEk K W (fun s h => (fa s h).bind fun p => (fb s p.2).bind fun q => lift (if A p.1 q.1 q.2 then none else g p.1 q.1 q.2)) σ H Q ∨
    TEk K W (fun s h => (fa s h).bind fun p => (fb s p.2).bind fun q => lift (if A p.1 q.1 q.2 then g p.1 q.1 q.2 else none)) σ H Q := by
  obtain ⟨Fr, ρ, s, h, r, sr, ok⟩ := t
  dsimp only at ok
  unfold TEk
  dsimp only
  cases e1 : fa s h with
  | exc e q => exact .inl ⟨Fr, ρ, s, h, r, sr, by rw [e1] at ok ⊢; exact ok⟩
  | stuck => rw [e1] at ok; exact ok.elim
  | ok p =>
    rw [e1] at ok
    cases e2 : fb s p.2 with
    | exc e q =>
      have ok : okR _ _ ((fb s p.2).bind _) := ok
      rw [e2] at ok
      exact .inl ⟨Fr, ρ, s, h, r, sr, by rw [e1]; show okR _ _ ((fb s p.2).bind _); rw [e2]; exact ok⟩
    | stuck =>
      have ok : okR _ _ ((fb s p.2).bind _) := ok
      rw [e2] at ok; exact ok.elim
    | ok q =>
      have ok : okR _ _ ((fb s p.2).bind _) := ok
      rw [e2] at ok
      cases e3 : A p.1 q.1 q.2 with
      | false => exact .inl ⟨Fr, ρ, s, h, r, sr, by rw [e1]; show okR _ _ ((fb s p.2).bind _); rw [e2]; show okR _ _ (lift (if A p.1 q.1 q.2 = true then none else _)); rw [e3]; exact ok⟩
      | true => exact .inr ⟨Fr, ρ, s, h, r, sr, by rw [e1]; show okR _ _ ((fb s p.2).bind _); rw [e2]; show okR _ _ (lift (if A p.1 q.1 q.2 = true then _ else none)); rw [e3]; exact ok⟩
theorem se_ix {W : EK X.K} {a b : Expr} {pos : Pos} {fa fb : Env' → Hq → R (D × Hq)} (hu : X.A.units + 1 < cLine) (ha : SE X W a fa) (hb : SE X W b fb) (hs : PlainIx b) :
    SE X W (.Subscript a b pos) (fun s h => (fa s h).bind fun p => (fb s p.2).bind fun q => lift (ixD p.1 q.1 q.2)) := by
  refine PE.imp (PE.or (pe_ix ix_plain ha hb hs) (pe_dget hu ha hb hs)) fun σ H Q t => ?_
  rcases TEk.split2 (fun x i h => isDctRef h x) t with t | t
  · exact .inl (t2o (g := fun x i h => if isDctRef h x then none else ixD x i h) t)
  · refine .inr ?_
    obtain ⟨Fr, ρ, s, h, r, sr, ok⟩ := t2o (g := fun x i h => if isDctRef h x then ixD x i h else none) t
    refine ⟨Fr, ρ, s, h, r, sr, ok.mono (fun p q v ρ1 H1 x1 r1 d1 => ?_) fun _ _ z => z⟩
    obtain ⟨Fr, ρ, s, h, r, sr, ok⟩ := q v ρ1 H1 x1 r1 d1
    refine ⟨Fr, ρ, s, h, r, sr, ok.mono (fun p q v ρ1 H1 x1 r1 d1 => ?_) fun _ _ z => z⟩
    obtain ⟨Fr, ρ, h, d, e, r, d1, d2, p, q, k⟩ := q v ρ1 H1 x1 r1 d1
    dsimp only at q
    split at q
    · rename_i nd
      obtain ⟨a, v, e1, e2, e3, e4⟩ := dget_of r d1 d2 nd q
      obtain ⟨p1, p2⟩ := p
      dsimp only at e3 e4
      subst e4
      exact ⟨a, v, e1, e2, k.same r e3⟩
    · cases q

/-! ### slices -/
def rSlD (K : PySem.W.Frag) : V → Option Int → Option Int → Hp → VK → Prop := fun x lo hi H Q => ∃ Fr ρ h d, HR K Fr ρ h H ∧ RD K Fr ρ H d x ∧ ∃ p, sliceD d lo hi h = some p ∧ Kont K Fr ρ H Q p
theorem rds_cut {K : PySem.W.Frag} {Fr ρ : List Addr} {H : Hp} {ds : List D} {vs : List V} (lo hi : Option Int) (r : RDs K Fr ρ H ds vs) : RDs K Fr ρ H (cut ds lo hi) (cutV vs lo hi) := by
  unfold cut cutV
  rw [r.length]
  exact (r.drop _).take _
theorem cut_all {α : Type} {xs : List α} {lo hi : Option Int} (h : HT.sIx xs.length 0 lo = 0 ∧ HT.sIx xs.length xs.length hi = xs.length) : cut xs lo hi = xs := by
  unfold cut
  rw [h.1, h.2]; simp
theorem sl_D : SlR X (rSlD X.K) := by
  refine SlR.imp (sl_tupA.or (sl_str.or (sl_list.or sl_tupF))) fun x lo hi H Q ⟨Fr, ρ, h, d, r, d1, p, q, k⟩ => ?_
  unfold sliceD at q
  split at q
  · rename_i ns
    cases q
    have d1' := d1
    unfold RD at d1'
    obtain ⟨a, rfl, k1⟩ := d1'
    refine .inr (.inr (.inr ⟨a, _, rfl, k1.sqT, fun z => ?_, fun _ p o hp ho => ?_⟩))
    · rw [List.length_map] at z
      rw [cut_all z] at k
      exact k.same r d1
    · have e : cutV (ns.map V.int) lo hi = (cut ns lo hi).map V.int := by
        unfold cutV cut
        rw [List.length_map, List.map_take, List.map_drop]
      rw [e]
      exact k.ktp r hp ho
  · rename_i ds
    cases q
    obtain ⟨a, vs, rfl, s1, q1⟩ := d1.sqT
    refine .inl ⟨a, vs, rfl, s1, fun z => ?_, fun _ p hp => k.tup r (rds_cut lo hi q1) hp⟩
    rw [← q1.length] at z
    rw [cut_all z] at k
    exact k.same r d1
  · split at q
    · rename_i hl
      cases q
      exact .inr (.inl ⟨_, rd_str.mp d1, lineOk_le hl, k.same r (rd_str.mpr rfl)⟩)
    · cases q
  · rename_i _ nt ns
    split at q
    · rename_i ds hd
      cases q
      have hq : ∃ a vs, x = .ref a ∧ SqL X.K H a vs ∧ RDs X.K Fr ρ H ds vs := by
        unfold sqlOf at hd
        split at hd
        · cases hd
          unfold RD at d1
          obtain ⟨a, e1, k1⟩ := d1
          refine ⟨a, _, e1, ?_, RDs.of_ints _⟩
          rcases k1 with ⟨k1, _⟩ | k1
          · exact .inl k1.1
          · exact .inr k1
        · obtain ⟨a, vs, e, s, q⟩ := r.lstOf d1 hd
          exact ⟨a, vs, e, .of s, q⟩
      obtain ⟨a, vs, rfl, s, q1⟩ := hq
      exact .inr (.inr (.inl ⟨a, vs, rfl, s, fun p hp => k _ ρ _ (ext_new hp) (r.new hp) (RD.newL r (rds_cut lo hi q1) hp)⟩))
    · cases q

/-! ### stores to a place -/
def rSetD (K : PySem.W.Frag) : TSet := fun o i v H Q => ∃ Fr ρ h x k d, HR K Fr ρ h H ∧ RD K Fr ρ H x o ∧ RD K Fr ρ H k i ∧ RD K Fr ρ H d v ∧ ∃ h', setD x k d h = some h' ∧ ∀ ρ' H', Ext ρ H ρ' H' → HR K Fr ρ' h' H' → Q H'
theorem PSet.imp {t t' : TSet} (h : PSet X t) (i : ∀ o k v H Q, t' o k v H Q → t o k v H Q) : PSet X t' := fun pins s σ H o k v ov iv u Q I r1 r2 r3 q => h pins s σ H o k v ov iv u Q I r1 r2 r3 (i _ _ _ _ _ q)
theorem PSet.or {t t' : TSet} (h : PSet X t) (h' : PSet X t') : PSet X (fun o k v H Q => t o k v H Q ∨ t' o k v H Q) := fun pins s σ H o k v ov iv u Q I r1 r2 r3 q => q.elim (fun q => h pins s σ H o k v ov iv u Q I r1 r2 r3 q) fun q => h' pins s σ H o k v ov iv u Q I r1 r2 r3 q
theorem set_dict (hu : X.A.units + 1 < cLine) : PSet X (fun o i v H Q => ∃ a H4, o = .ref a ∧ DPut H a i v H4 ∧ Q H4) := fun pins s σ H o i v ov iv u Q I r1 r2 r3 ⟨a, H4, e, g, q⟩ => by
  subst e
  cases r1
  exact d_setItem hu I g r2 r3 fun s' I' => ⟨H4, I', q⟩
theorem set_D (hu : X.A.units + 1 < cLine) : PSet X (rSetD X.K) := by
  refine PSet.imp (PSet.or set_list (set_dict hu)) fun o i v H Q ⟨Fr, ρ, h, x, k, d, r, d1, d2, d3, h', q, kk⟩ => ?_
  unfold setD at q
  split at q
  · rename_i n
    split at q
    · rename_i ds hn
      split at q
      · split at q
        · rename_i j hj
          cases q
          obtain ⟨a, vs, rfl, ha, e3, rs⟩ := r.lst d1 hn
          refine .inl ⟨a, vs, _, j, rfl, rd_int.mp d2, e3, by rw [← rs.length]; exact hj, ?_⟩
          exact kk ρ _ (ext_set r ha) (r.set ha ⟨_, upd_same, RDs.mono (ext_set r ha) _ _ (RDs.set j d3 rs)⟩)
        · cases q
      · cases q
    · rename_i kvs hn
      split at q
      · rename_i kk' hk
        split at q
        · rename_i hl
          cases q
          obtain ⟨a, vs, rfl, ha, e3, kr⟩ := r.dct d1 hn
          rw [kv_of_key hk d2]
          refine .inr ⟨a, _, rfl, .k e3 (by rw [← kr.length, sizeLine_eq]; exact hl), ?_⟩
          exact kk ρ _ (ext_set r ha) (r.set ha ⟨_, upd_same, (kr.put d3).mono (ext_set r ha)⟩)
        · cases q
      · cases q
    · rename_i kvs hn
      split at q
      · rename_i ks
        split at q
        · rename_i kk' hk
          split at q
          · rename_i hl
            cases q
            unfold RD at d1
            obtain ⟨a, rfl, ha⟩ := d1
            obtain ⟨b', hb, vs, e3, kr⟩ := r.at' n _ hn
            rw [ha] at hb; cases hb
            obtain ⟨c, xs, rfl, e4, qs⟩ := d2.tupl
            rw [kvs_of_keys hk qs] at e4
            refine .inr ⟨a, _, rfl, .t e3 e4 (by rw [← kr.length, sizeLine_eq]; exact hl), ?_⟩
            exact kk ρ _ (ext_set r ha) (r.set ha ⟨_, upd_same, (kr.put d3).mono (ext_set r ha)⟩)
          · cases q
        · cases q
      · cases q
    · cases q
  · cases q

/-! ### built-ins -/
section
variable {K : PySem.W.Frag} {Fr ρ : List Addr} {H : Hp} {h : Hq}
theorem rds1 {d : D} {xs : List V} (r : RDs K Fr ρ H [d] xs) : ∃ v, xs = [v] ∧ RD K Fr ρ H d v := by
  unfold RDs at r
  obtain ⟨v, t, rfl, a, b⟩ := r
  unfold RDs at b
  subst b
  exact ⟨v, rfl, a⟩
theorem rds2 {d e : D} {xs : List V} (r : RDs K Fr ρ H [d, e] xs) : ∃ v w, xs = [v, w] ∧ RD K Fr ρ H d v ∧ RD K Fr ρ H e w := by
  unfold RDs at r
  obtain ⟨v, t, rfl, a, b⟩ := r
  obtain ⟨w, rfl, c⟩ := rds1 b
  exact ⟨v, w, rfl, a, c⟩
theorem HR.ints (r : HR K Fr ρ h H) {d : D} {ns : List Int} {v : V} (k : RD K Fr ρ H d v) (e : intsL h d = some ns) : ∃ a, v = .ref a ∧ SqL K H a (ns.map V.int) := by
  obtain ⟨ds, e1, e2⟩ := Option.bind_eq_some_iff.mp e
  obtain ⟨a, vs, rfl, s, q⟩ := r.lstOf k e1
  rw [RDs.ints e2 q] at s
  exact ⟨a, rfl, .of s⟩
end
theorem call_len_d : CallR X (.builtin "len") (fun xs H Q => ∃ a kvs, xs = [.ref a] ∧ H a = some (.dK kvs) ∧ Q (.int kvs.length) H) := by
  intro pins s σ H xs us Q I r h
  obtain ⟨a, kvs, rfl, e, q⟩ := h
  obtain ⟨u, rfl, r1⟩ := vals1 r
  cases r1
  exact d_len I (.inl e) fun t s' I' => ⟨.int _, H, I', ⟨t, rfl⟩, q⟩
/-- a built-in of one argument, by values -/
theorem cb1 {v : Value} {r : List V → Hp → VK → Prop} {g : D → Hq → Option (D × Hq)} (c : CallR X v r)
    (i : ∀ x H Q Fr ρ h d p, HR X.K Fr ρ h H → RD X.K Fr ρ H d x → g d h = some p → Kont X.K Fr ρ H Q p → r [x] H Q) : CallR X v (rDs X.K (un1 g)) :=
  CallR.imp c fun xs H Q ⟨Fr, ρ, h, ds, r, d1, p, q, k⟩ => by
    unfold un1 at q
    split at q
    · obtain ⟨v, e, d2⟩ := rds1 d1
      subst e
      exact i v H Q Fr ρ h _ p r d2 q k
    · cases q
theorem cb2 {v : Value} {r : List V → Hp → VK → Prop} {g : D → D → Hq → Option (D × Hq)} (c : CallR X v r)
    (i : ∀ x y H Q Fr ρ h d e p, HR X.K Fr ρ h H → RD X.K Fr ρ H d x → RD X.K Fr ρ H e y → g d e h = some p → Kont X.K Fr ρ H Q p → r [x, y] H Q) : CallR X v (rDs X.K (un2 g)) :=
  CallR.imp c fun xs H Q ⟨Fr, ρ, h, ds, r, d1, p, q, k⟩ => by
    unfold un2 at q
    split at q
    · obtain ⟨v, w, e, d2, d3⟩ := rds2 d1
      subst e
      exact i v w H Q Fr ρ h _ _ p r d2 d3 q k
    · cases q
theorem cb_len : CallR X (.builtin "len") (rDs X.K (un1 lenD)) := by
  refine cb1 (call_len.or call_len_d) fun x H Q Fr ρ h d p r d1 q k => ?_
  unfold lenD at q
  split at q
  · split at q
    · rename_i hl
      cases q
      rw [rd_str.mp d1]
      exact .inl ⟨_, _, rfl, ⟨lineOk_le hl, rfl⟩, k.same r (rd_int.mpr rfl)⟩
    · cases q
  · split at q
    · rename_i n _ ds hn
      cases q
      obtain ⟨a, vs, rfl, ha, e3, rs⟩ := r.lst d1 hn
      exact .inl ⟨_, _, rfl, .inl ⟨vs, .of e3, rfl⟩, by rw [← rs.length]; exact k.same r (rd_int.mpr rfl)⟩
    · rename_i n _ kvs hn
      cases q
      obtain ⟨a, vs, rfl, ha, e3, kr⟩ := r.dct d1 hn
      exact .inr ⟨a, vs, rfl, e3, by rw [← kr.length]; exact k.same r (rd_int.mpr rfl)⟩
    · cases q
  · split at q
    · rename_i ds hd
      cases q
      obtain ⟨a, vs, rfl, e3, rs⟩ := r.items d1 hd
      refine .inl ⟨_, vs.length, rfl, ?_, by rw [← rs.length]; exact k.same r (rd_int.mpr rfl)⟩
      rcases e3 with e3 | e3
      · exact .inl ⟨vs, e3, rfl⟩
      · exact .inr ⟨vs, e3, rfl⟩
    · cases q
theorem cb_int : CallR X (.type "int") (rDs X.K (un1 toIntD)) := by
  refine cb1 (call_int1.or call_int_str) fun x H Q Fr ρ h d p r d1 q k => ?_
  unfold toIntD at q
  split at q
  · cases q; rw [rd_int.mp d1]; exact .inl (.inl ⟨_, rfl, k.same r (rd_int.mpr rfl)⟩)
  · cases q; rw [rd_bl.mp d1]; exact .inl (.inr ⟨_, rfl, k.same r (rd_int.mpr rfl)⟩)
  · split at q
    · rename_i hl
      split at q
      · rename_i n hn
        cases q; rw [rd_str.mp d1]; exact .inr ⟨_, _, rfl, hn, hl, k.same r (rd_int.mpr rfl)⟩
      · cases q
    · cases q
  · cases q
theorem cb_i2 {v : Value} {g : Int → Int → Int} (c : CallR X v fun xs H Q => ∃ i j, xs = [.int i, .int j] ∧ Q (.int (g i j)) H) : CallR X v (rDs X.K (un2 (int2 (fun _ _ => true) g))) := by
  refine cb2 c fun x y H Q Fr ρ h d e p r d1 d2 q k => ?_
  unfold int2 at q
  split at q
  · rw [if_pos rfl] at q
    cases q; rw [rd_int.mp d1, rd_int.mp d2]; exact ⟨_, _, rfl, k.same r (rd_int.mpr rfl)⟩
  · cases q
/-- values that are tuples of ints -/
def TupsAt (K : PySem.W.Frag) (H : Hp) : List V → List (List Int) → Prop
  | [], [] => True
  | v :: vs, n :: ns => (∃ t, v = V.ref t ∧ SqT K H t (n.map V.int)) ∧ TupsAt K H vs ns
  | _, _ => False
theorem TupsAt.get {K : PySem.W.Frag} {H : Hp} : ∀ {vs : List V} {ns : List (List Int)} {i : Nat} {v : V}, TupsAt K H vs ns → vs[i]? = some v → ∃ t n, v = V.ref t ∧ ns[i]? = some n ∧ SqT K H t (n.map V.int)
  | v :: vs, n :: ns, 0, w, h, e => by
    cases e
    obtain ⟨t, e1, e2⟩ := h.1
    exact ⟨t, n, e1, rfl, e2⟩
  | v :: vs, n :: ns, i + 1, w, h, e => by simpa using TupsAt.get h.2 (by simpa using e)
theorem RDs.get2 {K : PySem.W.Frag} {Fr ρ : List Addr} {H : Hp} : ∀ {ds : List D} {vs : List V} {i : Nat} {v : V}, RDs K Fr ρ H ds vs → vs[i]? = some v → ∃ d, ds[i]? = some d ∧ RD K Fr ρ H d v
  | [], vs, i, v, r, e => by
    unfold RDs at r
    subst r
    simp at e
  | d :: ds, vs, i, v, r, e => by
    unfold RDs at r
    obtain ⟨w, ws, rfl, k, r⟩ := r
    cases i with
    | zero => cases e; exact ⟨d, rfl, k⟩
    | succ i => simpa using RDs.get2 r (by simpa using e)
theorem HR.sql {K : PySem.W.Frag} {Fr ρ : List Addr} {H : Hp} {h : Hq} (r : HR K Fr ρ h H) {d : D} {ds : List D} {v : V} (k : RD K Fr ρ H d v) (e : sqlOf h d = some ds) : ∃ a vs, v = .ref a ∧ SqL K H a vs ∧ RDs K Fr ρ H ds vs := by
  unfold sqlOf at e
  split at e
  · cases e
    unfold RD at k
    obtain ⟨a, e1, k1⟩ := k
    refine ⟨a, _, e1, ?_, RDs.of_ints _⟩
    rcases k1 with ⟨k1, _⟩ | k1
    · exact .inl k1.1
    · exact .inr k1
  · obtain ⟨a, vs, e, s, q⟩ := r.lstOf k e
    exact ⟨a, vs, e, .of s, q⟩
theorem cb_tuple : CallR X (.type "tuple") (rDs X.K (un1 tupleD)) := by
  refine cb1 call_tuple_of fun x H Q Fr ρ h d p r d1 q k => ?_
  unfold tupleD at q
  split at q
  · cases q
    obtain ⟨a, vs, rfl, s, q⟩ := d1.sqT
    exact ⟨a, vs, rfl, .inr ⟨s, k.same r d1⟩⟩
  · cases q
    have d1' := d1
    unfold RD at d1'
    obtain ⟨a, rfl, k1⟩ := d1'
    exact ⟨a, _, rfl, .inr ⟨k1.sqT, k.same r d1⟩⟩
  · split at q
    · rename_i ds hd
      cases q
      obtain ⟨a, vs, rfl, s, q⟩ := r.sql d1 hd
      exact ⟨a, vs, rfl, .inl ⟨s, fun l hl => k.tup r q hl⟩⟩
    · cases q
theorem cb_list {live : Bool} : CallR X (.type "list") (rDs X.K (un1 (listD live))) := by
  refine cb1 call_list_of fun x H Q Fr ρ h d p r d1 q k => ?_
  unfold listD at q
  split at q
  · rename_i ds hd
    obtain ⟨a, vs, rfl, s, rs⟩ := r.items d1 hd
    exact ⟨a, vs, rfl, s, fun l hl => k.lst q r rs hl⟩
  · cases q
theorem cb_str : CallR X (.type "str") (rDs X.K (un1 strD)) := by
  refine cb1 call_str_int fun x H Q Fr ρ h d p r d1 q k => ?_
  unfold strD at q
  split at q
  · split at q
    · rename_i c
      cases q
      rw [rd_int.mp d1]
      exact ⟨_, rfl, c, k.same r (rd_str.mpr rfl)⟩
    · cases q
  · cases q
/-- repr of data -/
theorem call_reprP (hg : X.A.guards = some []) (hu : X.A.units + 128 < cLine) : CallR X (.builtin "repr") (fun xs H Q => ∃ x p, xs = [x] ∧ Dp X.K H x p ∧ showOk p = true ∧ Q (.str p.shown) H) := by
  intro pins s σ H xs us Q I r h
  obtain ⟨x, p, rfl, hd, hs, q⟩ := h
  obtain ⟨u, rfl, r1⟩ := vals1 r
  unfold showOk at hs
  simp only [Bool.and_eq_true, Bool.not_eq_true', decide_eq_true_eq] at hs
  obtain ⟨⟨⟨h1, h2⟩, h3⟩, h4⟩ := hs
  obtain ⟨as, rd⟩ := Dp.reads I p x u hd r1
  have hz := lineOk_le h4
  have fin : ∀ h' t, (∀ b o, s.heap.get? b = some o → h'.get? b = some o) → EP X pins σ Q (.str p.shown t) { s with heap := h', toks := s.toks } → True := fun _ _ _ _ => trivial
  cases rd with
  | none =>
    refine PySem.P.repr_of_none ?_
    refine ⟨.str _, H, I.tok _, ⟨_, rfl⟩, ?_⟩
    simpa only [PyData.shown] using q
  | bool b =>
    refine PySem.P.repr_of_bool ?_
    refine ⟨.str _, H, I.tok _, ⟨_, rfl⟩, ?_⟩
    simpa only [PyData.shown] using q
  | int i t =>
    refine PySem.P.repr_of_int (by simpa [PyData.showable] using h1) ?_
    refine ⟨.str _, H, I.tok _, ⟨_, rfl⟩, ?_⟩
    simpa only [PyData.shown] using q
  | str y t =>
    refine PySem.P.repr_of_str ?_ (by simpa only [PyData.shown] using hz)
    refine ⟨.str _, H, I.tok _, ⟨_, rfl⟩, ?_⟩
    simpa only [PyData.shown] using q
  | list a1 a2 a3 a4 =>
    exact repr_of_reads' (.list a1 a2 a3 a4) h1 (fun z => by rw [h2] at z; cases z) hg (by omega) (fun _ _ e => e) (fun h' t tk hk => ⟨.str _, H, I.kept hk, ⟨t, rfl⟩, q⟩) hz
  | tuple a1 a2 a3 a4 =>
    exact repr_of_reads' (.tuple a1 a2 a3 a4) h1 (fun z => by rw [h2] at z; cases z) hg (by omega) (fun _ _ e => e) (fun h' t tk hk => ⟨.str _, H, I.kept hk, ⟨t, rfl⟩, q⟩) hz
  | dict => cases hd
theorem cb_repr (hg : X.A.guards = some []) (hu : X.A.units + 128 < cLine) : CallR X (.builtin "repr") (rDs X.K (un1 reprD)) := by
  refine cb1 (call_reprP hg hu) fun x H Q Fr ρ h d p r d1 q k => ?_
  unfold reprD at q
  split at q
  · rename_i p hp
    split at q
    · rename_i hs
      cases q
      exact ⟨x, p, rfl, r.dp hp d1, hs, k.same r (rd_str.mpr rfl)⟩
    · cases q
  · cases q
end
end FF

/-! FFSE4: isinstance, sorted, methods. -/
namespace FF
open PySem PySem.Spec PyProof.Rows L2

/-! ### sorted -/
section
variable {X : Cx}
/-! ### isinstance(x, T), T one of four -/
def bt : Bi → String
  | .isint => "int" | .isbool => "bool" | .isstr => "str" | _ => "tuple"
def is4 : Bi → Bool
  | .isint => true | .isbool => true | .isstr => true | .istup => true | _ => false
def tyS (h : Hq) : D → String
  | .non => "NoneType" | .bl _ => "bool" | .int _ => "int" | .str _ => "str" | .tup _ => "tuple" | .ktp _ => "tuple" | .kpp _ => "tuple" | .lst _ => "list" | .scr _ => "list" | .dct _ => "dict"
  | .ref n => match h[n]? with | some (.lst _) => "list" | _ => "dict"
  | _ => ""
theorem tyx_of {K : PySem.W.Frag} {Fr ρ : List Addr} {H : Hp} {h : Hq} (r : HR K Fr ρ h H) {d : D} {x : V} (k : RD K Fr ρ H d x) (nNX : (isN h d || isX d) = false) : TyX K H x (.type (tyS h d)) := by
  obtain ⟨nN, nX⟩ := Bool.or_eq_false_iff.mp nNX
  cases d with
  | non => rw [rd_non.mp k]; exact .base .non
  | bl b => rw [rd_bl.mp k]; exact .base (.bl _)
  | int b => rw [rd_int.mp k]; exact .base (.int _)
  | str b => rw [rd_str.mp k]; exact .base (.str _)
  | tup ds => obtain ⟨a, vs, rfl, e, _⟩ := k.tupl; exact .base (.tup e)
  | lst ds => obtain ⟨a, vs, rfl, e, _⟩ := k.sqL; exact .base (.lst e)
  | scr ns =>
    unfold RD at k
    obtain ⟨a, rfl, k⟩ := k
    rcases k with ⟨⟨k | ⟨o, k⟩, _⟩, _⟩ | ⟨o, its, n, k, c, _⟩
    · exact .base (.lst k)
    · exact .base (.frz k)
    · exact .kList k c
  | ktp ns =>
    unfold RD at k
    obtain ⟨a, rfl, ⟨⟨o, k, _⟩, _⟩ | ⟨_, o, k, c, _⟩⟩ := k
    · exact .fTuple k
    · exact .kTuple k c
  | kpp ps =>
    unfold RD at k
    obtain ⟨a, rfl, o, qs, k, _⟩ := k
    exact .fTuple k
  | ref n =>
    unfold RD at k
    obtain ⟨a, rfl, ha⟩ := k
    have hn : n < h.length := by rw [← r.len]; exact (List.getElem?_eq_some_iff.mp ha).1
    obtain ⟨b, hb, q⟩ := r.at' n h[n] (List.getElem?_eq_getElem hn)
    rw [ha] at hb; cases hb
    show TyX K H (V.ref a) (Value.type (match h[n]? with | some (.lst _) => "list" | _ => "dict"))
    rw [List.getElem?_eq_getElem hn]
    cases e : h[n] with
    | lst ds => rw [e] at q; obtain ⟨vs, e1, _⟩ := q; exact .base (.lst e1)
    | dct ds => rw [e] at q; obtain ⟨vs, e1, _⟩ := q; exact .base (.dK e1)
    | dctT ds => rw [e] at q; obtain ⟨vs, e1, _⟩ := q; exact .base (.dT e1)
    | dctN ds =>
      exfalso
      unfold isN at nN
      dsimp only at nN
      rw [List.getElem?_eq_getElem hn, e] at nN
      cases nN
    | ins _ _ => rw [e] at q; exact q.elim
    | dead => rw [e] at q; exact q.elim
  | dct _ => unfold RD at k; obtain ⟨_, _, a, rfl, e, _⟩ := k; exact .base (.dK e)
  | exn _ _ => exact absurd nX (fun z => nomatch z)
  | opq _ => exact absurd nX (fun z => nomatch z)
theorem kit_NoneType_isint : kitB "NoneType" "int" = some false := by decide +kernel
theorem kit_NoneType_isbool : kitB "NoneType" "bool" = some false := by decide +kernel
theorem kit_NoneType_isstr : kitB "NoneType" "str" = some false := by decide +kernel
theorem kit_NoneType_istup : kitB "NoneType" "tuple" = some false := by decide +kernel
theorem kit_bool_isint : kitB "bool" "int" = some true := by decide +kernel
theorem kit_bool_isbool : kitB "bool" "bool" = some true := by decide +kernel
theorem kit_bool_isstr : kitB "bool" "str" = some false := by decide +kernel
theorem kit_bool_istup : kitB "bool" "tuple" = some false := by decide +kernel
theorem kit_int_isint : kitB "int" "int" = some true := by decide +kernel
theorem kit_int_isbool : kitB "int" "bool" = some false := by decide +kernel
theorem kit_int_isstr : kitB "int" "str" = some false := by decide +kernel
theorem kit_int_istup : kitB "int" "tuple" = some false := by decide +kernel
theorem kit_str_isint : kitB "str" "int" = some false := by decide +kernel
theorem kit_str_isbool : kitB "str" "bool" = some false := by decide +kernel
theorem kit_str_isstr : kitB "str" "str" = some true := by decide +kernel
theorem kit_str_istup : kitB "str" "tuple" = some false := by decide +kernel
theorem kit_tuple_isint : kitB "tuple" "int" = some false := by decide +kernel
theorem kit_tuple_isbool : kitB "tuple" "bool" = some false := by decide +kernel
theorem kit_tuple_isstr : kitB "tuple" "str" = some false := by decide +kernel
theorem kit_tuple_istup : kitB "tuple" "tuple" = some true := by decide +kernel
theorem kit_list_isint : kitB "list" "int" = some false := by decide +kernel
theorem kit_list_isbool : kitB "list" "bool" = some false := by decide +kernel
theorem kit_list_isstr : kitB "list" "str" = some false := by decide +kernel
theorem kit_list_istup : kitB "list" "tuple" = some false := by decide +kernel
theorem kit_dict_isint : kitB "dict" "int" = some false := by decide +kernel
theorem kit_dict_isbool : kitB "dict" "bool" = some false := by decide +kernel
theorem kit_dict_isstr : kitB "dict" "str" = some false := by decide +kernel
theorem kit_dict_istup : kitB "dict" "tuple" = some false := by decide +kernel
theorem kit_is (K : PySem.W.Frag) (h : Hq) (f : Bi) (hf : is4 f = true) (d : D) (nd : tyS h d ≠ "") : PySem.W.kitOne K (.type (tyS h d)) (.type (bt f)) = some (isIn f d) := by
  refine kit_ty ?_
  cases f <;> first | (cases hf; done) | skip
  case isint =>
    cases d with
    | non => exact kit_NoneType_isint
    | bl b => exact kit_bool_isint
    | int b => exact kit_int_isint
    | str b => exact kit_str_isint
    | tup b => exact kit_tuple_isint
    | lst b => exact kit_list_isint
    | scr b => exact kit_list_isint
    | ktp b => exact kit_tuple_isint
    | kpp b => exact kit_tuple_isint
    | ref n =>
      show kitB (match h[n]? with | some (.lst _) => "list" | _ => "dict") _ = _
      split
      · exact kit_list_isint
      · exact kit_dict_isint
    | dct _ => exact kit_dict_isint
    | exn _ _ => exact absurd rfl nd
    | opq _ => exact absurd rfl nd
  case isbool =>
    cases d with
    | non => exact kit_NoneType_isbool
    | bl b => exact kit_bool_isbool
    | int b => exact kit_int_isbool
    | str b => exact kit_str_isbool
    | tup b => exact kit_tuple_isbool
    | lst b => exact kit_list_isbool
    | scr b => exact kit_list_isbool
    | ktp b => exact kit_tuple_isbool
    | kpp b => exact kit_tuple_isbool
    | ref n =>
      show kitB (match h[n]? with | some (.lst _) => "list" | _ => "dict") _ = _
      split
      · exact kit_list_isbool
      · exact kit_dict_isbool
    | dct _ => exact kit_dict_isbool
    | exn _ _ => exact absurd rfl nd
    | opq _ => exact absurd rfl nd
  case isstr =>
    cases d with
    | non => exact kit_NoneType_isstr
    | bl b => exact kit_bool_isstr
    | int b => exact kit_int_isstr
    | str b => exact kit_str_isstr
    | tup b => exact kit_tuple_isstr
    | lst b => exact kit_list_isstr
    | scr b => exact kit_list_isstr
    | ktp b => exact kit_tuple_isstr
    | kpp b => exact kit_tuple_isstr
    | ref n =>
      show kitB (match h[n]? with | some (.lst _) => "list" | _ => "dict") _ = _
      split
      · exact kit_list_isstr
      · exact kit_dict_isstr
    | dct _ => exact kit_dict_isstr
    | exn _ _ => exact absurd rfl nd
    | opq _ => exact absurd rfl nd
  case istup =>
    cases d with
    | non => exact kit_NoneType_istup
    | bl b => exact kit_bool_istup
    | int b => exact kit_int_istup
    | str b => exact kit_str_istup
    | tup b => exact kit_tuple_istup
    | lst b => exact kit_list_istup
    | scr b => exact kit_list_istup
    | ktp b => exact kit_tuple_istup
    | kpp b => exact kit_tuple_istup
    | ref n =>
      show kitB (match h[n]? with | some (.lst _) => "list" | _ => "dict") _ = _
      split
      · exact kit_list_istup
      · exact kit_dict_istup
    | dct _ => exact kit_dict_istup
    | exn _ _ => exact absurd rfl nd
    | opq _ => exact absurd rfl nd
theorem tyS_ne {K : PySem.W.Frag} {Fr ρ : List Addr} {H : Hp} {h : Hq} {d : D} {x : V} (k : RD K Fr ρ H d x) (nX : isX d = false) : tyS h d ≠ "" := by
  cases d with
  | exn _ _ => exact absurd nX (fun z => nomatch z)
  | opq _ => exact absurd nX (fun z => nomatch z)
  | ref n =>
    show (match h[n]? with | some (.lst _) => "list" | _ => "dict") ≠ ""
    split <;> decide
  | _ => simp [tyS]
theorem bt_four (f : Bi) : bt f = "int" ∨ bt f = "bool" ∨ bt f = "str" ∨ bt f = "tuple" := by
  cases f <;> simp [bt]
/-- isinstance(x, T), x an object whose parts nobody reads -/
theorem cb_isQ (f : Bi) : CallR X (.builtin "isinstance") (fun xs H Q => ∃ a, xs = [.ref a, .ty (bt f)] ∧ OpqAt X.K H a ∧ Q (.bl false) H) := by
  intro pins s σ H xs us Q I r h
  obtain ⟨a, rfl, k, q⟩ := h
  obtain ⟨u1, u2, rfl, r1, r2⟩ := vals2 r
  cases (show u1 = Value.ref a from r1)
  cases (show u2 = Value.type (bt f) from r2)
  rcases k with ⟨oe, C, ea, hz, hf, EK⟩ | ⟨C, dx, fs, ea, IK⟩
  · obtain ⟨hget, _⟩ := (show ObjOk X.prog X.w H s.heap a (.frz oe (.own 0)) from I.hok a _ ea)
    obtain ⟨vs, hv⟩ := hf
    have J : PySem.W.InstAt s.heap a oe C none := by
      obtain ⟨oc, od, oda, osl⟩ := oe
      obtain ⟨h1, h2⟩ := hz
      dsimp only at h1 h2 hv
      subst h1 h2 hv
      exact ⟨hget, rfl, rfl, trivial⟩
    exact PySem.W.kia_one (PySem.W.handS_kitx_exc EK.e.hg EK.e.hk EK.e.hs EK.e.hd EK.e.ha EK.e.hn EK.e.ht EK.e.hm) I.kIn J (EK.n4 _ (bt_four f)) (fun z => nomatch z) fun tk => ⟨.bl false, H, I.tok tk, rfl, q⟩
  · obtain ⟨P, Z, p, hx⟩ := kit_of I (show RelV (.ref a) (Value.ref a) from rfl) (.base (.ins ea IK.cl IK.ha IK.hn IK.ht IK.hm))
    exact PySem.W.kia_one Z I.kIn p (IK.n4 _ (bt_four f)) hx fun tk => ⟨.bl false, H, I.tok tk, rfl, q⟩
theorem CallR.or {f : Value} {r1 r2 : List V → Hp → VK → Prop} (h1 : CallR X f r1) (h2 : CallR X f r2) : CallR X f (fun xs H Q => r1 xs H Q ∨ r2 xs H Q) := fun pins s σ H xs us Q I r h => h.elim (h1 pins s σ H xs us Q I r) (h2 pins s σ H xs us Q I r)
theorem cb_is (f : Bi) (hf : is4 f = true) : CallR X (.builtin "isinstance") (fun xs H Q => ∃ Fr ρ h d x, xs = [x, .ty (bt f)] ∧ HR X.K Fr ρ h H ∧ RD X.K Fr ρ H d x ∧ (isN h d || isX d) = false ∧ Kont X.K Fr ρ H Q (.bl (isIn f d), h)) :=
  CallR.imp call_isi fun xs H Q ⟨Fr, ρ, h, d, x, e, r, d1, nN, k⟩ => ⟨x, .ty (bt f), _, _, _, e, .ty _, tyx_of r d1 nN, kit_is X.K h f hf d (tyS_ne d1 (Bool.or_eq_false_iff.mp nN).2), k.same r (rd_bl.mpr rfl)⟩

/-! ### methods -/
def rM (K : PySem.W.Frag) (g : D → List D → Hq → Option (D × Hq)) : V → List V → Hp → VK → Prop := fun x xs H Q => ∃ Fr ρ h d ds, HR K Fr ρ h H ∧ RD K Fr ρ H d x ∧ RDs K Fr ρ H ds xs ∧ ∃ p, g d ds h = some p ∧ Kont K Fr ρ H Q p
theorem mt_appendD : MtR X "list.append" (rM X.K appendD) := by
  refine MtR.imp (show MtR X "list.append" rAppend from mt_append) fun x xs H Q ⟨Fr, ρ, h, d, ds, r, d1, d2, p, q, k⟩ => ?_
  unfold appendD at q
  split at q
  · rename_i n v
    split at q
    · rename_i es hn
      split at q
      · rename_i hl
        cases q
        obtain ⟨a, vs, rfl, ha, e3, rs⟩ := r.lst d1 hn
        obtain ⟨w, e, d3⟩ := rds1 d2
        subst e
        refine ⟨a, vs, w, rfl, rfl, e3, by rw [← rs.length, sizeLine_eq]; exact hl, ?_⟩
        exact k _ ρ _ (ext_set r ha) (r.set ha ⟨_, upd_same, RDs.mono (ext_set r ha) _ _ (rs.append (.cons d3 .nil))⟩) (rd_non.mpr rfl)
      · cases q
    · cases q
  · cases q
theorem mt_popD : MtR X "list.pop" (rM X.K popD) := by
  refine MtR.imp (show MtR X "list.pop" rPop from mt_pop) fun x xs H Q ⟨Fr, ρ, h, d, ds, r, d1, d2, p, q, k⟩ => ?_
  unfold popD at q
  split at q
  · rename_i n
    split at q
    · rename_i es hn
      split at q
      · rename_i y hy
        cases q
        obtain ⟨a, vs, rfl, ha, e3, rs⟩ := r.lst d1 hn
        unfold RDs at d2
        subst d2
        obtain ⟨v, e4, d3⟩ := rs.get hy
        refine ⟨a, vs, v, rfl, rfl, e3, by rw [← rs.length]; exact e4, ?_⟩
        exact k _ ρ _ (ext_set r ha) (r.set ha ⟨_, upd_same, RDs.mono (ext_set r ha) _ _ rs.dropLast⟩) (RD.mono (ext_set r ha) _ _ d3)
      · cases q
    · cases q
  · cases q
theorem mt_popAtD : MtR X "list.pop" (rM X.K popAtD) := by
  refine MtR.imp (show MtR X "list.pop" rPopAt from mt_popAt) fun x xs H Q ⟨Fr, ρ, h, d, ds, r, d1, d2, p, q, k⟩ => ?_
  unfold popAtD at q
  split at q
  · rename_i n i
    split at q
    · rename_i es hn
      split at q
      · rename_i j hj
        split at q
        · rename_i y hy
          split at q
          · rename_i hl
            cases q
            obtain ⟨a, vs, rfl, ha, e3, rs⟩ := r.lst d1 hn
            obtain ⟨w, e, d3⟩ := rds1 d2
            subst e
            obtain ⟨v, e4, d4⟩ := rs.get hy
            obtain ⟨z1, z2, z3, z4⟩ := ixN_seq hj
            refine ⟨a, vs, i, j, v, rfl, by rw [rd_int.mp d3], e3, by omega, by omega, by rw [← rs.length]; exact z1, e4, ?_⟩
            exact k _ ρ _ (ext_set r ha) (r.set ha ⟨_, upd_same, RDs.mono (ext_set r ha) _ _ (rs.eraseIdx _)⟩) (RD.mono (ext_set r ha) _ _ d4)
          · cases q
        · cases q
      · cases q
    · cases q
  · cases q
end
end FF

/-! FFSE5: expressions in whole. -/
namespace FF
open PySem PySem.Spec PyProof.Rows L2

section
variable {X : Cx} {W : EK X.K}
/-! ### names, constants -/
theorem se_var {x : Str} {pos : Pos} {i : Nat} (hN : X.N[i]? = some x) (hv : Vis X.env.scope x) (hd : (x == ("__debug__" : Str)) = false) (hcd : (x == ("__classdict__" : Str)) = false) :
    SE X W (.Name x pos) (fun s h => match s[i]? with | some (some d) => R.ok (d, h) | _ => R.stuck) := by
  refine PE.imp (pe_var hN hv hd hcd) fun σ H Q ⟨Fr, ρ, s, h, r, sr, ok⟩ => ?_
  have ok : okR _ _ (match s[i]? with | some (some d) => R.ok (d, h) | _ => R.stuck) := ok
  split at ok
  · rename_i d e
    obtain ⟨v, e1, q⟩ := sr.get i d e
    exact ⟨v, e1, Kont.same ok r q⟩
  · exact ok.elim
theorem se_const {e : Expr} {v : V} {d : D} (h : PE X e (tC v)) (hr : ∀ Fr ρ H, RD X.K Fr ρ H d v) : SE X W e (fun _ h => .ok (d, h)) :=
  PE.imp h fun σ H Q ⟨Fr, ρ, s, h, r, sr, ok⟩ => Kont.same ok r (hr _ _ _)

/-! ### operators -/
theorem se_bin {op : Operator} {live : Bool} {a b : Expr} {pos : Pos} {fa fb : Env' → Hq → R (D × Hq)} (ha : SE X W a fa) (hb : SE X W b fb) :
    SE X W (.BinOp a op b pos) (fun s h => (fa s h).bind fun p => (fb s p.2).bind fun q => lift (binop op live p.1 q.1 q.2)) :=
  PE.imp (pe_op (op_bin op live) ha hb) fun _ _ _ t => t2o (g := binop op live) t
theorem se_neg {a : Expr} {pos : Pos} {fa : Env' → Hq → R (D × Hq)} (ha : SE X W a fa) : SE X W (.UnaryOp .USub a pos) (fun s h => (fa s h).bind fun p => lift (negD p.1 p.2)) :=
  PE.imp (pe_un un_negD ha) fun _ _ _ t => t1o (g := negD) t
theorem se_cmp {op : CmpOp} {a b : Expr} {pos : Pos} {fa fb : Env' → Hq → R (D × Hq)} (hu : X.A.units + 65 < cLine) (ha : SE X W a fa) (hb : SE X W b fb) (hm : behindInMarks op b = false) :
    SE X W (.Compare a [op] [b] pos) (fun s h => (fa s h).bind fun p => (fb s p.2).bind fun q => lift (cmpop op p.1 q.1 q.2)) :=
  PE.imp (pe_cmpR (op_cmp hu op) ha hb hm) fun _ _ _ t => t2o (g := cmpop op) t

/-! ### tests -/
theorem RDs.isEmpty {K : PySem.W.Frag} {Fr ρ : List Addr} {H : Hp} {ds : List D} {vs : List V} (q : RDs K Fr ρ H ds vs) : ds.isEmpty = vs.isEmpty := by
  have := q.length
  cases ds with
  | nil =>
    cases vs with
    | nil => rfl
    | cons a b => cases this
  | cons a b =>
    cases vs with
    | nil => cases this
    | cons a b => rfl
theorem KR.isEmpty {κ : Type} [DecidableEq κ] {K : PySem.W.Frag} {Fr ρ : List Addr} {H : Hp} {ds : List (κ × D)} {vs : List (κ × V)} (q : KR K Fr ρ H ds vs) : ds.isEmpty = vs.isEmpty := by
  have := q.length
  cases ds with
  | nil =>
    cases vs with
    | nil => rfl
    | cons a b => cases this
  | cons a b =>
    cases vs with
    | nil => cases this
    | cons a b => rfl
/-- the value's truth is the test's -/
theorem truth_tru {K : PySem.W.Frag} {Fr ρ : List Addr} {H : Hp} {h : Hq} (r : HR K Fr ρ h H) {d : D} {v : V} {b : Bool} (k : RD K Fr ρ H d v) (e : truth h d = some b) : TruV K v H b := by
  unfold truth at e
  split at e
  · cases e; rw [rd_non.mp k]; rfl
  · cases e; rw [rd_bl.mp k]; rfl
  · cases e; rw [rd_int.mp k]; rfl
  · split at e
    · rename_i hl
      cases e
      rw [rd_str.mp k]
      refine ⟨lineOk_le hl, ?_⟩
      generalize Str.length _ = n
      cases n with
      | zero => rfl
      | succ n => simp; omega
    · cases e
  · cases e
    obtain ⟨a, vs, rfl, s, q⟩ := k.sqT
    exact .inr (.inl ⟨vs, s, by rw [q.isEmpty]⟩)
  · cases e
    obtain ⟨a, vs, rfl, s, q⟩ := k.sqL
    exact .inl ⟨vs, .of s, by rw [q.isEmpty]⟩
  · split at e
    · rename_i n _ ds hn
      cases e
      obtain ⟨a, vs, rfl, _, s, q⟩ := r.lst k hn
      exact .inl ⟨vs, .of s, by rw [q.isEmpty]⟩
    · rename_i n _ ds hn
      cases e
      obtain ⟨a, vs, rfl, _, s, q⟩ := r.dct k hn
      exact .inr (.inr ⟨vs, s, by rw [q.isEmpty]⟩)
    · cases e
  · cases e
/-- an expression with no own way of testing -/
theorem st_plain {a : Expr} {fa : Env' → Hq → R (D × Hq)} (ha : SE X W a fa) (he : ∀ whole, isTrue a X.env whole = (do let v ← whole; standAt a.pos; holding [v] (truthy v))) : ST X W a (fun s h => testOf (fa s h)) := by
  refine PT.imp (pt_truth ha he) fun σ H Q ⟨Fr, ρ, s, h, r, sr, ok⟩ => ?_
  refine ⟨Fr, ρ, s, h, r, sr, (okR_bind.mp ok).mono (fun p q v ρ1 H1 x1 r1 d1 => ?_) fun _ _ z => z⟩
  have q : okR _ _ (match truth p.2 p.1 with | some b => R.ok (b, p.2) | none => .stuck) := q
  split at q
  · rename_i b hb
    exact ⟨b, truth_tru r1 d1 hb, q ρ1 H1 x1 r1⟩
  · exact q.elim
/-- a test that comes as a bool -/
theorem tt_bool {K : PySem.W.Frag} {W : EK K} {f : Env' → Hq → R (D × Hq)} (hb : ∀ s h p, f s h = .ok p → ∃ b, p.1 = .bl b) {σ : L2.St} {H : Hp} {Q : Bool → Hp → Prop} (t : TTk K W (fun s h => testOf (f s h)) σ H Q) :
    TEk K W f σ H fun x H' => ∃ k, x = .bl k ∧ Q k H' := by
  obtain ⟨Fr, ρ, s, h, r, sr, ok⟩ := t
  refine ⟨Fr, ρ, s, h, r, sr, ?_⟩
  dsimp only at ok
  cases e : f s h with
  | stuck => rw [e] at ok; exact ok
  | exc a b => rw [e] at ok; exact ok
  | ok p =>
    obtain ⟨b, e2⟩ := hb s h p e
    rw [e] at ok
    obtain ⟨p1, p2⟩ := p
    dsimp only at e2
    subst e2
    exact fun v ρ' H' x r d => ⟨b, rd_bl.mp d, ok ρ' H' x r⟩
theorem lift_ok {α : Type} {o : Option α} {a : α} (h : lift o = .ok a) : o = some a := by
  cases o with
  | none => cases h
  | some b => cases h; rfl
theorem bind_ok {α β : Type} {r : R α} {f : α → R β} {b : β} (h : r.bind f = .ok b) : ∃ a, r = .ok a ∧ f a = .ok b := by
  cases r with
  | ok a => exact ⟨a, rfl, h⟩
  | exc _ _ => cases h
  | stuck => cases h
theorem ofO_bl {h : Hq} {o : Option Bool} {p : D × Hq} {g : Bool → Bool} (e : ofO h (o.map fun b => .bl (g b)) = some p) : ∃ b, p.1 = .bl b := by
  obtain ⟨q1, _⟩ := ofO_some e
  obtain ⟨b, _, e2⟩ := Option.map_eq_some_iff.mp q1
  exact ⟨g b, e2.symm⟩
theorem intC_bl {g : Int → Int → Bool} {x y : D} {h : Hq} {p : D × Hq} (e : intC g x y h = some p) : ∃ b, p.1 = .bl b := by
  unfold intC at e
  split at e
  · cases e; exact ⟨_, rfl⟩
  · cases e
theorem cmpop_bl {op : CmpOp} {x y : D} {h : Hq} {p : D × Hq} (e : cmpop op x y h = some p) : ∃ b, p.1 = .bl b := by
  cases op
  case Eq => exact ofO_bl (g := id) e
  case NotEq => exact ofO_bl e
  case Lt => exact ofO_bl (g := id) e
  case LtE => exact intC_bl e
  case Gt => exact intC_bl e
  case GtE => exact intC_bl e
  case Is =>
    have e : (if isNon y then some (D.bl (isNon x), h) else isBB id x y h) = some p := e
    split at e
    · cases e; exact ⟨_, rfl⟩
    · unfold isBB at e
      split at e
      · cases e; exact ⟨_, rfl⟩
      · cases e
  case IsNot =>
    have e : (if isNon y then some (D.bl (!isNon x), h) else isBB not x y h) = some p := e
    split at e
    · cases e; exact ⟨_, rfl⟩
    · unfold isBB at e
      split at e
      · cases e; exact ⟨_, rfl⟩
      · cases e
  case In => exact ofO_bl (g := id) e
  case NotIn => exact ofO_bl e
theorem st_cmp {op : CmpOp} {a b : Expr} {pos : Pos} {fa fb : Env' → Hq → R (D × Hq)} (hu : X.A.units + 65 < cLine) (ha : SE X W a fa) (hb : SE X W b fb) (hm : behindInMarks op b = false) :
    ST X W (.Compare a [op] [b] pos) (fun s h => testOf ((fa s h).bind fun p => (fb s p.2).bind fun q => lift (cmpop op p.1 q.1 q.2))) := by
  refine PT.imp (pt_cmpR (op_cmp hu op) ha hb hm) fun σ H Q t => ?_
  refine t2o (g := cmpop op) (tt_bool (fun s h p e => ?_) t)
  obtain ⟨x, _, e⟩ := bind_ok e
  obtain ⟨y, _, e⟩ := bind_ok e
  exact cmpop_bl (lift_ok e)
/-- a op b op' c -/
def chainD (op op' : CmpOp) (fa fb fc : Env' → Hq → R (D × Hq)) : Env' → Hq → R (D × Hq) := fun s h => (fa s h).bind fun p => (fb s p.2).bind fun q => (lift (cmpop op p.1 q.1 q.2)).bind fun z =>
  match z.1 with
  | .bl true => (fc s z.2).bind fun u => lift (cmpop op' q.1 u.1 u.2)
  | .bl false => .ok (.bl false, z.2)
  | _ => .stuck
theorem chain_t {K : PySem.W.Frag} {W : EK K} {op op' : CmpOp} {fa fb fc : Env' → Hq → R (D × Hq)} {σ : L2.St} {H : Hp} {Q : VK} (t : TEk K W (chainD op op' fa fb fc) σ H Q) :
    tChain (rD K (cmpop op)) (rD K (cmpop op')) (TEk K W fa) (TEk K W fb) (TEk K W fc) σ H Q := by
  obtain ⟨Fr, ρ, s, h, r, sr, ok⟩ := t
  refine ⟨Fr, ρ, s, h, r, sr, (okR_bind.mp ok).mono (fun p q v ρ1 H1 x1 r1 d1 => ?_) fun _ _ z => z⟩
  refine ⟨Fr, ρ1, s, p.2, r1, sr.mono x1, (okR_bind.mp q).mono (fun p2 q2 w ρ2 H2 x2 r2 d2 => ?_) fun _ _ z => W.mono x1 r1 z⟩
  obtain ⟨z, e, q3⟩ := okR_lift (P := fun a => _) (okR_bind.mp q2)
  refine ⟨Fr, ρ2, p2.2, p.1, p2.1, r2, RD.mono x2 _ _ d1, d2, z, e, fun v' ρ3 H3 x3 r3 d3 => ?_⟩
  obtain ⟨b, e2⟩ := cmpop_bl e
  obtain ⟨z1, z2⟩ := z
  dsimp only at e2
  subst e2
  refine ⟨b, rd_bl.mp d3, ?_⟩
  have x12 := (x1.step r1 x2).step r2 x3
  cases b with
  | false =>
    rw [if_neg Bool.false_ne_true]
    exact q3 _ ρ3 H3 x12 r3 (rd_bl.mpr rfl)
  | true =>
    rw [if_pos rfl]
    refine ⟨Fr, ρ3, s, z2, r3, sr.mono x12, (okR_bind.mp q3).mono (fun p4 q4 w4 ρ4 H4 x4 r4 d4 => ?_) fun _ _ z => W.mono x12 r3 z⟩
    obtain ⟨y, e4, k⟩ := okR_lift q4
    exact ⟨Fr, ρ4, p4.2, p2.1, p4.1, r4, RD.mono (x3.step r3 x4) _ _ d2, d4, y, e4, fun u ρ5 H5 x5 r5 d5 => k u ρ5 H5 ((x12.step r3 x4).step r4 x5) r5 d5⟩
theorem se_chain {op op' : CmpOp} {a b c : Expr} {pos : Pos} {fa fb fc : Env' → Hq → R (D × Hq)} (hu : X.A.units + 65 < cLine) (ha : SE X W a fa) (hb : SE X W b fb) (hc : SE X W c fc) (hm : lastMarks [op, op'] [b, c] = false) :
    SE X W (.Compare a [op, op'] [b, c] pos) (chainD op op' fa fb fc) := PE.imp (pe_chain (op_cmp hu op) (op_cmp hu op') ha hb hc hm) fun _ _ _ t => chain_t t
/-! ### and, or, not, if -/
theorem se_not {a : Expr} {pos : Pos} {fa : Env' → Hq → R (D × Hq)} (ha : SE X W a fa) : SE X W (.UnaryOp .Not a pos) (fun s h => (testOf (fa s h)).bind fun b => .ok (.bl (!b.1), b.2)) := by
  refine PE.imp (pe_notT ha) fun σ H Q ⟨Fr, ρ, s, h, r, sr, ok⟩ => ?_
  refine ⟨Fr, ρ, s, h, r, sr, (okR_bind.mp (okR_bind.mp ok)).mono (fun p q v ρ1 H1 x1 r1 d1 => ?_) fun _ _ z => z⟩
  have q : okR _ _ (match truth p.2 p.1 with | some b => R.ok (b, p.2) | none => .stuck) := q
  split at q
  · rename_i b hb
    exact ⟨b, truth_tru r1 d1 hb, q _ ρ1 H1 x1 r1 (rd_bl.mpr rfl)⟩
  · exact q.elim
theorem st_not {a : Expr} {pos : Pos} {fa : Env' → Hq → R (D × Hq)} (ha : ST X W a (fun s h => testOf (fa s h))) :
    ST X W (.UnaryOp .Not a pos) (fun s h => testOf ((testOf (fa s h)).bind fun b => .ok (.bl (!b.1), b.2))) := by
  refine PT.imp (pt_not ha) fun σ H Q ⟨Fr, ρ, s, h, r, sr, ok⟩ => ?_
  refine ⟨Fr, ρ, s, h, r, sr, ?_⟩
  dsimp only at ok ⊢
  cases e : testOf (fa s h) with
  | stuck => rw [e] at ok; exact ok
  | exc a b => rw [e] at ok; exact ok
  | ok p => rw [e] at ok; exact ok
def andD (fa fb : Env' → Hq → R (D × Hq)) : Env' → Hq → R (D × Hq) := fun s h => (fa s h).bind fun p => match truth p.2 p.1 with | some true => fb s p.2 | some false => .ok p | none => .stuck
def orD (fa fb : Env' → Hq → R (D × Hq)) : Env' → Hq → R (D × Hq) := fun s h => (fa s h).bind fun p => match truth p.2 p.1 with | some false => fb s p.2 | some true => .ok p | none => .stuck
theorem se_and {a b : Expr} {rest : List Expr} {pos : Pos} {fa fb : Env' → Hq → R (D × Hq)} (ha : SE X W a fa) (hb : SE X W (.BoolOp .And (b :: rest) pos) fb) : SE X W (.BoolOp .And (a :: b :: rest) pos) (andD fa fb) := by
  refine PE.imp (pe_andT ha hb) fun σ H Q ⟨Fr, ρ, s, h, r, sr, ok⟩ => ?_
  refine ⟨Fr, ρ, s, h, r, sr, (okR_bind.mp ok).mono (fun p q v ρ1 H1 x1 r1 d1 => ?_) fun _ _ z => z⟩
  split at q
  · rename_i hb
    refine ⟨true, truth_tru r1 d1 hb, ?_⟩
    rw [if_pos rfl]
    exact ⟨Fr, ρ1, s, p.2, r1, sr.mono x1, q.mono (fun p2 k u ρ2 H2 x2 r2 d2 => k u ρ2 H2 (x1.step r1 x2) r2 d2) fun _ _ z => W.mono x1 r1 z⟩
  · rename_i hb
    refine ⟨false, truth_tru r1 d1 hb, ?_⟩
    rw [if_neg Bool.false_ne_true]
    exact q v ρ1 H1 x1 r1 d1
  · exact q.elim
theorem se_one {op : BoolOp} {a : Expr} {pos : Pos} {fa : Env' → Hq → R (D × Hq)} (ha : SE X W a fa) : SE X W (.BoolOp op [a] pos) fa := pe_one ha
/-- tests of and, or: whatever the whole is -/
def SW (X : Cx) (W : EK X.K) (e : Expr) (f : Env' → Hq → R (Bool × Hq)) : Prop := PW X e (TTk X.K W f)
theorem PW.imp {e : Expr} {t t' : TT} (h : PW X e t) (i : ∀ σ H Q, t' σ H Q → t σ H Q) : PW X e t' := ⟨fun wh pins s σ H Q I q => h.run wh pins s σ H Q I (i σ H Q q)⟩
theorem sw_and {a b : Expr} {rest : List Expr} {pos : Pos} {fa fb : Env' → Hq → R (D × Hq)} (ha : ST X W a (fun s h => testOf (fa s h))) (hb : SW X W (.BoolOp .And (b :: rest) pos) (fun s h => testOf (fb s h))) :
    SW X W (.BoolOp .And (a :: b :: rest) pos) (fun s h => testOf (andD fa fb s h)) := by
  refine PW.imp (pw_and ha hb) fun σ H Q ⟨Fr, ρ, s, h, r, sr, ok⟩ => ?_
  refine ⟨Fr, ρ, s, h, r, sr, ?_⟩
  dsimp only at ok ⊢
  unfold andD at ok
  cases e : fa s h with
  | stuck => rw [e] at ok; exact ok
  | exc a b => rw [e] at ok; exact ok
  | ok p =>
    rw [e] at ok
    have ok : okR _ _ (testOf (match truth p.2 p.1 with | some true => fb s p.2 | some false => .ok p | none => .stuck)) := ok
    show okR _ _ (match truth p.2 p.1 with | some b => R.ok (b, p.2) | none => .stuck)
    cases et : truth p.2 p.1 with
    | none => rw [et] at ok; exact ok
    | some b =>
      rw [et] at ok
      cases b with
      | true =>
        refine fun ρ1 H1 x1 r1 => ?_
        show (if true = true then _ else _)
        rw [if_pos rfl]
        exact ⟨Fr, ρ1, s, p.2, r1, sr.mono x1, okR.mono ok (fun p2 k ρ2 H2 x2 r2 => k ρ2 H2 (x1.step r1 x2) r2) fun _ _ z => W.mono x1 r1 z⟩
      | false =>
        refine fun ρ1 H1 x1 r1 => ?_
        show (if false = true then _ else _)
        rw [if_neg Bool.false_ne_true]
        have ok : okR _ _ (match truth p.2 p.1 with | some b => R.ok (b, p.2) | none => .stuck) := ok
        rw [et] at ok
        exact ok ρ1 H1 x1 r1
theorem sw_or {a b : Expr} {rest : List Expr} {pos : Pos} {fa fb : Env' → Hq → R (D × Hq)} (ha : ST X W a (fun s h => testOf (fa s h))) (hb : SW X W (.BoolOp .Or (b :: rest) pos) (fun s h => testOf (fb s h))) :
    SW X W (.BoolOp .Or (a :: b :: rest) pos) (fun s h => testOf (orD fa fb s h)) := by
  refine PW.imp (pw_or ha hb) fun σ H Q ⟨Fr, ρ, s, h, r, sr, ok⟩ => ?_
  refine ⟨Fr, ρ, s, h, r, sr, ?_⟩
  dsimp only at ok ⊢
  unfold orD at ok
  cases e : fa s h with
  | stuck => rw [e] at ok; exact ok
  | exc a b => rw [e] at ok; exact ok
  | ok p =>
    rw [e] at ok
    have ok : okR _ _ (testOf (match truth p.2 p.1 with | some false => fb s p.2 | some true => .ok p | none => .stuck)) := ok
    show okR _ _ (match truth p.2 p.1 with | some b => R.ok (b, p.2) | none => .stuck)
    cases et : truth p.2 p.1 with
    | none => rw [et] at ok; exact ok
    | some b =>
      rw [et] at ok
      cases b with
      | false =>
        refine fun ρ1 H1 x1 r1 => ?_
        show (if false = true then _ else _)
        rw [if_neg Bool.false_ne_true]
        exact ⟨Fr, ρ1, s, p.2, r1, sr.mono x1, okR.mono ok (fun p2 k ρ2 H2 x2 r2 => k ρ2 H2 (x1.step r1 x2) r2) fun _ _ z => W.mono x1 r1 z⟩
      | true =>
        refine fun ρ1 H1 x1 r1 => ?_
        show (if true = true then _ else _)
        rw [if_pos rfl]
        have ok : okR _ _ (match truth p.2 p.1 with | some b => R.ok (b, p.2) | none => .stuck) := ok
        rw [et] at ok
        exact ok ρ1 H1 x1 r1
theorem sw_one_and {a : Expr} {pos : Pos} {fa : Env' → Hq → R (D × Hq)} (ha : ST X W a (fun s h => testOf (fa s h))) : SW X W (.BoolOp .And [a] pos) (fun s h => testOf (fa s h)) := pw_and1 ha
theorem sw_one_or {a : Expr} {pos : Pos} {fa : Env' → Hq → R (D × Hq)} (ha : ST X W a (fun s h => testOf (fa s h))) : SW X W (.BoolOp .Or [a] pos) (fun s h => testOf (fa s h)) := pw_or1 ha
def ifD (ft fa fb : Env' → Hq → R (D × Hq)) : Env' → Hq → R (D × Hq) := fun s h => (testOf (ft s h)).bind fun c => if c.1 then fa s c.2 else fb s c.2
theorem se_if {t a b : Expr} {pos : Pos} {ft fa fb : Env' → Hq → R (D × Hq)} (ht : ST X W t (fun s h => testOf (ft s h))) (ha : SE X W a fa) (hb : SE X W b fb) : SE X W (.IfExp t a b pos) (ifD ft fa fb) := by
  refine PE.imp (pe_ifExp ht ha hb) fun σ H Q ⟨Fr, ρ, s, h, r, sr, ok⟩ => ?_
  refine ⟨Fr, ρ, s, h, r, sr, (okR_bind.mp ok).mono (fun p q ρ1 H1 x1 r1 => ?_) fun _ _ z => z⟩
  obtain ⟨c, h1⟩ := p
  cases c with
  | true =>
    rw [if_pos rfl]
    exact ⟨Fr, ρ1, s, h1, r1, sr.mono x1, okR.mono (show okR _ _ (fa s h1) from q) (fun p2 k u ρ2 H2 x2 r2 d2 => k u ρ2 H2 (x1.step r1 x2) r2 d2) fun _ _ z => W.mono x1 r1 z⟩
  | false =>
    rw [if_neg Bool.false_ne_true]
    exact ⟨Fr, ρ1, s, h1, r1, sr.mono x1, okR.mono (show okR _ _ (fb s h1) from q) (fun p2 k u ρ2 H2 x2 r2 d2 => k u ρ2 H2 (x1.step r1 x2) r2 d2) fun _ _ z => W.mono x1 r1 z⟩
end
end FF

/-! FFSE6: arguments, displays, calls of built-ins, methods, slices. -/
namespace FF
open PySem PySem.Spec PyProof.Rows L2

section
variable {X : Cx} {W : EK X.K}
theorem sa_nil : SA X W [] (fun _ h => .ok ([], h)) := PA.imp pa_nil fun σ H Q ⟨Fr, ρ, s, h, r, sr, ok⟩ => ok [] ρ H .refl r RDs.nil
theorem sa_cons {e : Expr} {es : List Expr} {fe : Env' → Hq → R (D × Hq)} {fs : Env' → Hq → R (List D × Hq)} (he : SE X W e fe) (hs : SA X W es fs) (hst : starEach (e :: es) X.env = (false, eval e X.env) :: starEach es X.env) :
    SA X W (e :: es) (fun s h => (fe s h).bind fun p => (fs s p.2).bind fun q => .ok (p.1 :: q.1, q.2)) := by
  refine PA.imp (pa_cons he hs hst) fun σ H Q ⟨Fr, ρ, s, h, r, sr, ok⟩ => ?_
  refine ⟨Fr, ρ, s, h, r, sr, (okR_bind.mp ok).mono (fun p q v ρ1 H1 x1 r1 d1 => ?_) fun _ _ z => z⟩
  refine ⟨Fr, ρ1, s, p.2, r1, sr.mono x1, (okR_bind.mp q).mono (fun p2 q2 w ρ2 H2 x2 r2 d2 => ?_) fun _ _ z => W.mono x1 r1 z⟩
  exact q2 _ ρ2 H2 (x1.step r1 x2) r2 (.cons (RD.mono x2 _ _ d1) d2)
/-- what is done with the arguments' values -/
theorem tA {K : PySem.W.Frag} {W : EK K} {fs : Env' → Hq → R (List D × Hq)} {g : List D → Hq → R (D × Hq)} {σ : L2.St} {H : Hp} {Q : VK} (t : TEk K W (fun s h => (fs s h).bind fun q => g q.1 q.2) σ H Q) :
    TAk K W fs σ H fun xs H1 => ∃ Fr ρ h ds, HR K Fr ρ h H1 ∧ RDs K Fr ρ H1 ds xs ∧ okR (Kont K Fr ρ H1 Q) (W.p Fr ρ H1 σ) (g ds h) := by
  obtain ⟨Fr, ρ, s, h, r, sr, ok⟩ := t
  refine ⟨Fr, ρ, s, h, r, sr, (okR_bind.mp ok).mono (fun p q v ρ1 H1 x1 r1 d1 => ?_) fun _ _ z => z⟩
  exact ⟨Fr, ρ1, p.2, p.1, r1, d1, q.mono (fun a k u ρ3 H3 x3 r3 d3 => k u ρ3 H3 (x1.step r1 x3) r3 d3) fun _ _ z => W.mono x1 r1 z⟩
theorem TAk.mono {K : PySem.W.Frag} {W : EK K} {fs : Env' → Hq → R (List D × Hq)} {σ : L2.St} {H : Hp} {Q Q' : List V → Hp → Prop} (t : TAk K W fs σ H Q) (i : ∀ xs H, Q xs H → Q' xs H) : TAk K W fs σ H Q' := by
  obtain ⟨Fr, ρ, s, h, r, sr, ok⟩ := t
  exact ⟨Fr, ρ, s, h, r, sr, ok.mono (fun p q v ρ1 H1 x1 r1 d1 => i _ _ (q v ρ1 H1 x1 r1 d1)) fun _ _ z => z⟩
theorem TEk.kmono {K : PySem.W.Frag} {W : EK K} {fs : Env' → Hq → R (D × Hq)} {σ : L2.St} {H : Hp} {Q Q' : VK} (t : TEk K W fs σ H Q) (i : ∀ xs H, Q xs H → Q' xs H) : TEk K W fs σ H Q' := by
  obtain ⟨Fr, ρ, s, h, r, sr, ok⟩ := t
  exact ⟨Fr, ρ, s, h, r, sr, ok.mono (fun p q v ρ1 H1 x1 r1 d1 => i _ _ (q v ρ1 H1 x1 r1 d1)) fun _ _ z => z⟩
theorem tAo {K : PySem.W.Frag} {W : EK K} {fs : Env' → Hq → R (List D × Hq)} {g : List D → Hq → Option (D × Hq)} {σ : L2.St} {H : Hp} {Q : VK} (t : TEk K W (fun s h => (fs s h).bind fun q => lift (g q.1 q.2)) σ H Q) :
    tCB (rDs K g) (TAk K W fs) σ H Q :=
  (tA (g := fun ds h => lift (g ds h)) t).mono fun xs H1 ⟨Fr, ρ, h, ds, r, d, ok⟩ => ⟨Fr, ρ, h, ds, r, d, okR_lift ok⟩
/-- a display of a tuple, of a list -/
theorem se_tup {es : List Expr} {x1 : Nat} {pos : Pos} {fs : Env' → Hq → R (List D × Hq)} (h : SA X W es fs) : SE X W (.Tuple es x1 pos) (fun s h => (fs s h).bind fun q => lift (mkT q.1 q.2)) := by
  refine PE.imp (pe_tup h) fun σ H Q t => (tA (g := fun ds h => lift (mkT ds h)) t).mono fun xs H1 ⟨Fr, ρ, h, ds, r, d, ok⟩ => ?_
  obtain ⟨p, e, k⟩ := okR_lift ok
  unfold mkT at e
  split at e
  · rename_i hl
    cases e
    exact ⟨by rw [← d.length]; exact lineOk_le hl, fun p hp => Kont.tup k r d hp⟩
  · cases e
theorem se_lst {es : List Expr} {pos : Pos} {live : Bool} {fs : Env' → Hq → R (List D × Hq)} (h : SA X W es fs) : SE X W (.List es pos) (fun s h => (fs s h).bind fun q => lift (mkL live q.1 q.2)) := by
  refine PE.imp (pe_lst h) fun σ H Q t => (tA (g := fun ds h => lift (mkL live ds h)) t).mono fun xs H1 ⟨Fr, ρ, h, ds, r, d, ok⟩ => ?_
  obtain ⟨p, e, k⟩ := okR_lift ok
  exact ⟨by rw [← d.length]; exact mkL_len e, fun p hp => Kont.lst k e r d hp⟩
/-- calls of built-ins -/
theorem se_cb {id : String} {x : Str} {e : Expr} {es : List Expr} {p pos : Pos} {g : List D → Hq → Option (D × Hq)} {fs : Env' → Hq → R (List D × Hq)} (hc : CallR X (.builtin id) (rDs X.K g)) (hg : Gl X x) (hm : X.mg x = none) (hv : bootBuiltins x = some (.builtin id))
    (ha : SA X W (e :: es) fs) (hn : x ≠ "__name__") (hdb : (x == ("__debug__" : Str)) = false) (he : starEach (e :: es) X.env = (false, eval e X.env) :: starEach es X.env) (hpl : (backTo pos (starEach es X.env)).any (·.1) = false) :
    SE X W (.Call (.Name x p) (e :: es) [] pos) (fun s h => (fs s h).bind fun q => lift (g q.1 q.2)) := PE.imp (pe_callB hc hg hm hv ha hn hdb he hpl) fun _ _ _ t => tAo t
theorem se_ct {T : String} {x : Str} {e : Expr} {es : List Expr} {p pos : Pos} {g : List D → Hq → Option (D × Hq)} {fs : Env' → Hq → R (List D × Hq)} (hc : CallR X (.type T) (rDs X.K g)) (hg : Gl X x) (hm : X.mg x = none) (hv : bootBuiltins x = some (.type T))
    (ha : SA X W (e :: es) fs) (hn : x ≠ "__name__") (hdb : (x == ("__debug__" : Str)) = false) (he : starEach (e :: es) X.env = (false, eval e X.env) :: starEach es X.env) (hpl : (backTo pos (starEach es X.env)).any (·.1) = false) :
    SE X W (.Call (.Name x p) (e :: es) [] pos) (fun s h => (fs s h).bind fun q => lift (g q.1 q.2)) := PE.imp (pe_callTy hc hg hm hv ha hn hdb he hpl) fun _ _ _ t => tAo t
/-- isinstance(e, T) -/
theorem se_is {f : Bi} (hf : is4 f = true) {e : Expr} {ty : Str} {p p2 pos : Pos} {fe : Env' → Hq → R (D × Hq)} (hg : Gl X "isinstance") (hm : X.mg "isinstance" = none) (hg2 : Gl X ty) (hm2 : X.mg ty = none) (hv2 : bootBuiltins ty = some (.type (bt f))) (hn2 : ty ≠ "__name__") (hd2 : (ty == ("__debug__" : Str)) = false)
    (he : SE X W e fe) (h1 : starEach [e, .Name ty p2] X.env = (false, eval e X.env) :: starEach [.Name ty p2] X.env) (h2 : starEach [.Name ty p2] X.env = (false, eval (.Name ty p2) X.env) :: starEach [] X.env) (hpl : (backTo pos (starEach [.Name ty p2] X.env)).any (·.1) = false) :
    SE X W (.Call (.Name "isinstance" p) [e, .Name ty p2] [] pos) (fun s h => ((fe s h).bind fun p => R.ok ([p.1], p.2)).bind fun q => lift (un1 (isD f) q.1 q.2)) := by
  refine PE.imp (pe_callB (CallR.or (cb_is f hf) (cb_isQ f)) hg hm (by decide +kernel) (pa_cons he (pa_cons (pe_bltn (v := .ty (bt f)) hg2 hm2 hv2 rfl hn2 hd2) pa_nil h2) h1) (by decide) (by decide) h1 hpl) fun σ H Q t => ?_
  have t' : TEk X.K W (fun s h => (fe s h).bind fun p => lift (isD f p.1 p.2)) σ H Q := by
    obtain ⟨Fr, ρ, s, h, r, sr, ok⟩ := t
    exact ⟨Fr, ρ, s, h, r, sr, okR_bind.mpr ((okR_bind.mp (okR_bind.mp ok)).mono (fun p q => q) fun _ _ z => z)⟩
  refine (t1 (g := fun d h => lift (isD f d h)) t').kmono fun v H1 ⟨Fr, ρ, h, d, r, d1, ok⟩ => ?_
  unfold isD at ok
  split at ok
  · rename_i hq
    have ok : Kont X.K Fr ρ H1 Q (.bl false, h) := ok
    refine .inr ?_
    cases d with
    | opq k =>
      unfold RD at d1
      obtain ⟨a, rfl, n, nf, kq⟩ := d1
      exact ⟨a, rfl, kq, ok.same r (rd_bl.mpr rfl)⟩
    | _ => cases hq
  · split at ok
    · exact ok.elim
    · rename_i nN
      exact .inl ⟨Fr, ρ, h, d, v, rfl, r, d1, by simpa using nN, ok⟩

/-! ### slices -/
def SO (X : Cx) (W : EK X.K) (e : Option Expr) (f : Env' → Hq → R (Option Int × Hq)) : Prop := PO X e (fun σ H Q => ∃ Fr ρ s h, HR X.K Fr ρ h H ∧ SR X.K Fr ρ H s σ ∧ okR (fun p => ∀ ρ' H', Ext ρ H ρ' H' → HR X.K Fr ρ' p.2 H' → Q p.1 H') (W.p Fr ρ H σ) (f s h))
theorem PO.imp {e : Option Expr} {t t' : TO} (h : PO X e t) (i : ∀ σ H Q, t' σ H Q → t σ H Q) : PO X e t' := ⟨fun pins s σ H Q I q => h.run pins s σ H Q I (i _ _ _ q)⟩
theorem so_no : SO X W none (fun _ h => .ok (none, h)) := PO.imp po_none fun σ H Q ⟨Fr, ρ, s, h, r, sr, ok⟩ => ok ρ H .refl r
theorem so_yes {e : Expr} {fe : Env' → Hq → R (D × Hq)} (he : SE X W e fe) : SO X W (some e) (fun s h => (fe s h).bind fun p => match p.1 with | .int i => .ok (some i, p.2) | _ => .stuck) := by
  refine PO.imp (po_some he) fun σ H Q ⟨Fr, ρ, s, h, r, sr, ok⟩ => ?_
  refine ⟨Fr, ρ, s, h, r, sr, (okR_bind.mp ok).mono (fun p q v ρ1 H1 x1 r1 d1 => ?_) fun _ _ z => z⟩
  split at q
  · rename_i i e
    rw [e] at d1
    exact ⟨i, rd_int.mp d1, q ρ1 H1 x1 r1⟩
  · exact q.elim
theorem se_slice {e : Expr} {lo hi : Option Expr} {p2 pos : Pos} {fe : Env' → Hq → R (D × Hq)} {fl fh : Env' → Hq → R (Option Int × Hq)} (he : SE X W e fe) (hl : SO X W lo fl) (hh : SO X W hi fh) :
    SE X W (.Subscript e (.Slice lo hi none p2) pos) (fun s h => (fe s h).bind fun p => (fl s p.2).bind fun l => (fh s l.2).bind fun u => lift (sliceD p.1 l.1 u.1 u.2)) := by
  refine PE.imp (pe_slice sl_D he hl hh) fun σ H Q ⟨Fr, ρ, s, h, r, sr, ok⟩ => ?_
  refine ⟨Fr, ρ, s, h, r, sr, (okR_bind.mp ok).mono (fun p q v ρ1 H1 x1 r1 d1 => ?_) fun _ _ z => z⟩
  refine ⟨Fr, ρ1, s, p.2, r1, sr.mono x1, (okR_bind.mp q).mono (fun p2 q2 ρ2 H2 x2 r2 => ?_) fun _ _ z => W.mono x1 r1 z⟩
  refine ⟨Fr, ρ2, s, p2.2, r2, sr.mono (x1.step r1 x2), (okR_bind.mp q2).mono (fun p3 q3 ρ3 H3 x3 r3 => ?_) fun _ _ z => W.mono (x1.step r1 x2) r2 z⟩
  obtain ⟨y, e, k⟩ := okR_lift q3
  exact ⟨Fr, ρ3, p3.2, p.1, r3, RD.mono (x2.step r2 x3) _ _ d1, y, e, fun u ρ4 H4 x4 r4 d4 => k u ρ4 H4 (((x1.step r1 x2).step r2 x3).step r3 x4) r4 d4⟩
/-! ### methods -/
/-- o.m(args), where the kind of o is k0 -/
def mthD (m : Me) (k0 : Kd) (g : D → List D → Hq → Option (D × Hq)) (fo : Env' → Hq → R (D × Hq)) (fs : Env' → Hq → R (List D × Hq)) : Env' → Hq → R (D × Hq) :=
  fun s h => (fo s h).bind fun p => if meKind m p.1 p.2 = some k0 then (fs s p.2).bind fun q => lift (g p.1 q.1 q.2) else .stuck
theorem tM {K : PySem.W.Frag} {W : EK K} {m : Me} {k0 : Kd} {T : String} {g : D → List D → Hq → Option (D × Hq)} {fo : Env' → Hq → R (D × Hq)} {fs : Env' → Hq → R (List D × Hq)} {σ : L2.St} {H : Hp} {Q : VK}
    (ht : ∀ Fr ρ h H d x, HR K Fr ρ h H → RD K Fr ρ H d x → kdOf h d = some k0 → tyV K T x H) (t : TEk K W (mthD m k0 g fo fs) σ H Q) : tBM K T (rM K g) (TEk K W fo) (TAk K W fs) σ H Q := by
  obtain ⟨Fr, ρ, s, h, r, sr, ok⟩ := t
  refine ⟨Fr, ρ, s, h, r, sr, (okR_bind.mp ok).mono (fun p q v ρ1 H1 x1 r1 d1 => ?_) fun _ _ z => z⟩
  split at q
  · rename_i hk
    have hk' : kdOf p.2 p.1 = some k0 := by
      unfold meKind at hk
      split at hk
      · rename_i k e
        split at hk
        · rw [e]; exact hk
        · cases hk
      · cases hk
    refine ⟨ht _ _ _ _ _ _ r1 d1 hk', Fr, ρ1, s, p.2, r1, sr.mono x1, (okR_bind.mp q).mono (fun p2 q2 w ρ2 H2 x2 r2 d2 => ?_) fun _ _ z => W.mono x1 r1 z⟩
    obtain ⟨y, e, k⟩ := okR_lift q2
    exact ⟨Fr, ρ2, p2.2, p.1, p2.1, r2, RD.mono x2 _ _ d1, d2, y, e, fun u ρ4 H4 x4 r4 d4 => k u ρ4 H4 ((x1.step r1 x2).step r2 x4) r4 d4⟩
  · exact q.elim
theorem ty_lst {K : PySem.W.Frag} {Fr ρ : List Addr} {h : Hq} {H : Hp} {d : D} {x : V} (r : HR K Fr ρ h H) (k : RD K Fr ρ H d x) (e : kdOf h d = some .lst) : tyV K "list" x H := by
  unfold kdOf at e
  split at e
  · split at e
    · rename_i ds hn
      obtain ⟨a, vs, rfl, _, s, q⟩ := r.lst k hn
      exact .inl ⟨rfl, vs, .of s⟩
    · cases e
    · cases e
  · cases e
  · cases e
  · cases e
  · cases e
end
end FF

/-! FFSE7: what is walked; targets; comprehensions. -/
namespace FF
open PySem PySem.Spec PyProof.Rows L2

mutual
theorem D.beq_eq : ∀ {a b : D}, D.beq a b = true → a = b
  | .non, b, h => by cases b <;> simp [D.beq] at h; rfl
  | .bl x, b, h => by cases b <;> simp [D.beq] at h; rw [h]
  | .int x, b, h => by cases b <;> simp [D.beq] at h; rw [h]
  | .str x, b, h => by cases b <;> simp [D.beq] at h; rw [h]
  | .scr x, b, h => by cases b <;> simp [D.beq] at h; rw [h]
  | .ktp x, b, h => by cases b <;> simp [D.beq] at h; rw [h]
  | .kpp x, b, h => by cases b <;> simp [D.beq] at h; rw [h]
  | .ref x, b, h => by cases b <;> simp [D.beq] at h; rw [h]
  | .tup xs, b, h => by cases b <;> simp [D.beq] at h; rw [D.beqs_eq h]
  | .lst xs, b, h => by cases b <;> simp [D.beq] at h; rw [D.beqs_eq h]
  | .dct xs, b, h => by cases b <;> simp [D.beq] at h; rw [D.beqs_eq h]
  | .exn c xs, b, h => by cases b <;> simp [D.beq] at h; rw [h.1, D.beqs_eq h.2]
  | .opq k, b, h => by cases b <;> simp [D.beq] at h; rw [h]
theorem D.beqs_eq : ∀ {a b : List D}, D.beqs a b = true → a = b
  | [], b, h => by cases b <;> simp [D.beqs] at h; rfl
  | x :: xs, b, h => by
    cases b with
    | nil => simp [D.beqs] at h
    | cons y ys => simp [D.beqs] at h; rw [D.beq_eq h.1, D.beqs_eq h.2]
end
theorem stands_at {h : Hq} {w : Watch} (e : stands h w = true) {n : Nat} {ds : List D} (m : (n, ds) ∈ w) : h[n]? = some (.lst ds) := by
  have q := List.all_eq_true.mp e _ m
  dsimp only at q
  split at q
  · rename_i es e1
    rw [e1, D.beqs_eq q]
  · cases q

section
variable {K : PySem.W.Frag} {Fr Fr' ρ ρ' : List Addr} {H H' : Hp} {h : Hq}
mutual
theorem RD.fr (hf : ∀ a ∈ Fr', a ∈ Fr ∨ H a = none) : ∀ (d : D) (v : V), RD K Fr ρ H d v → RD K Fr' ρ H d v
  | .non, _, r => r
  | .bl _, _, r => r
  | .int _, _, r => r
  | .str _, _, r => r
  | .ktp _, _, r => by unfold RD at r ⊢; exact r
  | .kpp _, _, r => by unfold RD at r ⊢; exact r
  | .ref n, _, r => by unfold RD at r ⊢; exact r
  | .tup ds, _, r => by
    unfold RD at r ⊢
    obtain ⟨a, vs, e, k, n, q⟩ := r
    exact ⟨a, vs, e, k, n, RDs.fr hf ds vs q⟩
  | .lst ds, _, r => by
    unfold RD at r ⊢
    obtain ⟨a, vs, e, k, n, nf, q⟩ := r
    refine ⟨a, vs, e, k, n, fun z => ?_, RDs.fr hf ds vs q⟩
    rcases hf a z with z | z
    · exact nf z
    · rw [k] at z; cases z
  | .scr ns, _, r => by
    unfold RD at r ⊢
    obtain ⟨a, e, k⟩ := r
    refine ⟨a, e, k.imp (fun k => ⟨k.1, fun z => ?_⟩) id⟩
    rcases hf a z with z | z
    · exact k.2 z
    · rcases k.1.1 with q | ⟨o, q⟩ <;> (rw [q] at z; cases z)
  | .dct _, _, r => by
    unfold RD at r ⊢
    obtain ⟨kvs, e, a, ev, k, n, nf⟩ := r
    refine ⟨kvs, e, a, ev, k, n, fun z => ?_⟩
    rcases hf a z with z | z
    · exact nf z
    · rw [k] at z; cases z
  | .opq _, _, r => by
    unfold RD at r ⊢
    obtain ⟨a, e, n, nf, k⟩ := r
    refine ⟨a, e, n, fun z => ?_, k⟩
    rcases hf a z with z | z
    · exact nf z
    · obtain ⟨o, ho, _⟩ := k.has
      rw [ho] at z; cases z
  | .exn c ds, _, r => by
    unfold RD at r ⊢
    obtain ⟨vs, k, q⟩ := r
    refine ⟨vs, k.go fun b o n nf e t => ⟨e, n, fun z => ?_⟩, RDs.fr hf ds vs q⟩
    rcases hf b z with z | z
    · exact nf z
    · rw [e] at z; cases z
theorem RDs.fr (hf : ∀ a ∈ Fr', a ∈ Fr ∨ H a = none) : ∀ (ds : List D) (vs : List V), RDs K Fr ρ H ds vs → RDs K Fr' ρ H ds vs
  | [], _, r => r
  | d :: ds, _, r => by
    unfold RDs at r ⊢
    obtain ⟨v, t, e, k, q⟩ := r
    exact ⟨v, t, e, RD.fr hf d v k, RDs.fr hf ds t q⟩
end
theorem SR.fr (hf : ∀ a ∈ Fr', a ∈ Fr ∨ H a = none) {s : Env'} {σ : L2.St} (r : SR K Fr ρ H s σ) : SR K Fr' ρ H s σ :=
  ⟨r.len, fun i d e => let ⟨v, e1, q⟩ := r.get i d e; ⟨v, e1, RD.fr hf d v q⟩⟩
theorem sub_fr (hs : ∀ a ∈ Fr', a ∈ Fr) : ∀ a ∈ Fr', a ∈ Fr ∨ H a = none := fun a ha => .inl (hs a ha)
theorem KR.fr {κ : Type} {kvs : List (κ × D)} {vs : List (κ × V)} (hf : ∀ a ∈ Fr', a ∈ Fr ∨ H a = none) (r : KR K Fr ρ H kvs vs) : KR K Fr' ρ H kvs vs := ⟨r.1, RDs.fr hf _ _ r.2⟩
theorem OR.fr (hf : ∀ a ∈ Fr', a ∈ Fr ∨ H a = none) {o : Ob} {a : Addr} (r : OR K Fr ρ H o a) : OR K Fr' ρ H o a := by
  cases o with
  | lst ds => obtain ⟨vs, e, q⟩ := r; exact ⟨vs, e, RDs.fr hf _ _ q⟩
  | dct ds => obtain ⟨vs, e, q⟩ := r; exact ⟨vs, e, q.fr hf⟩
  | dctT ds => obtain ⟨vs, e, q⟩ := r; exact ⟨vs, e, q.fr hf⟩
  | dctN ds => obtain ⟨vs, e, q⟩ := r; exact ⟨vs, e, q.1, RDs.fr hf _ _ q.2.1, RDs.fr hf _ _ q.2.2⟩
  | ins _ _ => exact r.elim
  | dead => exact r.elim
/-- an object of our own is set aside while it is made -/
theorem HR.aside (r : HR K Fr ρ h H) {p : Addr} {o : HO} (hp : H p = none) (ht : isTb o = false := by rfl) : HR K (p :: Fr) ρ h (upd H p o) := by
  have hf : ∀ a ∈ p :: Fr, a ∈ Fr ∨ H a = none := fun a ha => (List.mem_cons.mp ha).elim (fun e => .inr (e ▸ hp)) .inl
  have r' := r.new (o := o) hp
  refine ⟨r.len, r.nd, fun a ha => ?_, r'.tb, fun a ha z => ?_, fun n u e => ?_⟩
  · rcases List.mem_cons.mp ha with rfl | ha
    · exact ⟨o, upd_same, ht⟩
    · exact r'.fr' a ha
  · rcases List.mem_cons.mp z with rfl | z
    · exact (r.fresh hp).1 ha
    · exact r.dj a ha z
  · obtain ⟨a, e1, q⟩ := r.at' n u e
    obtain ⟨u', e'⟩ := q.tracked
    exact ⟨a, e1, (q.fr hf).mono (ext_new hp) (upd_ne (ne_of_none e' hp))⟩
def _root_.L2.HO.nt : HO → Bool
  | .tup _ => false
  | .frz _ _ => false
  | .tbl _ => false
  | .ext _ => false
  | _ => true
theorem tabS_nt {P : Addr} {q : Str} {a : Addr} {o u : HO} (t : LamX.TabS H P q) (e : H a = some u) (hu : u.nt = true) : LamX.TabS (upd H a o) P q := by
  obtain ⟨ps, h1, h2, h3⟩ := t
  refine ⟨ps, ?_, h2, fun pos cv hc => ?_⟩
  · have : P ≠ a := by rintro rfl; rw [h1] at e; cases e; cases hu
    rw [upd_ne this]; exact h1
  · obtain ⟨c, e1, e2⟩ := h3 pos cv hc
    refine ⟨c, e1, ?_⟩
    have : c ≠ a := by rintro rfl; rw [e2] at e; unfold LamX.CodeO at e; cases e; cases hu
    rw [upd_ne this]; exact e2
mutual
theorem RD.alt {p : Addr} {xs : HO} {o : HO} (hp : p ∈ Fr) (nt : xs.nt = true) (hH : H p = some xs) : ∀ (d : D) (v : V), RD K Fr ρ H d v → RD K Fr ρ (upd H p o) d v
  | .non, _, r => r
  | .bl _, _, r => r
  | .int _, _, r => r
  | .str _, _, r => r
  | .ktp _, _, r => by
    unfold RD at r ⊢
    obtain ⟨a, e, k⟩ := r
    refine ⟨a, e, k.imp (fun k => ⟨?_, k.2⟩) id⟩
    obtain ⟨o', k1, d⟩ := k.1
    exact ⟨o', by rw [upd_ne (ne_of k1 hH (by intro z; cases z; cases nt))]; exact k1, d⟩
  | .kpp _, _, r => by
    unfold RD at r ⊢
    obtain ⟨a, e, o', qs, k1, d, n, q⟩ := r
    refine ⟨a, e, o', qs, by rw [upd_ne (ne_of k1 hH (by intro z; cases z; cases nt))]; exact k1, d, n, paired_imp q fun z p y => ⟨by rw [upd_ne (ne_of y.1 hH (by intro z; cases z; cases nt))]; exact y.1, y.2⟩⟩
  | .ref n, _, r => by unfold RD at r ⊢; exact r
  | .tup ds, _, r => by
    unfold RD at r ⊢
    obtain ⟨a, vs, e, k, n, q⟩ := r
    exact ⟨a, vs, e, by rw [upd_ne (ne_of k hH (by intro z; cases z; cases nt))]; exact k, n, RDs.alt hp nt hH ds vs q⟩
  | .lst ds, _, r => by
    unfold RD at r ⊢
    obtain ⟨a, vs, e, k, n, nf, q⟩ := r
    have hne : a ≠ p := fun z => nf (z ▸ hp)
    exact ⟨a, vs, e, by rw [upd_ne hne]; exact k, n, nf, RDs.alt hp nt hH ds vs q⟩
  | .scr ns, _, r => by
    unfold RD at r ⊢
    obtain ⟨a, e, k⟩ := r
    refine ⟨a, e, k.imp (fun k => ⟨⟨?_, k.1.2⟩, k.2⟩) id⟩
    have hne : a ≠ p := fun z => k.2 (z ▸ hp)
    rcases k.1.1 with q | ⟨o', q⟩
    · exact .inl (by rw [upd_ne hne]; exact q)
    · exact .inr ⟨o', by rw [upd_ne hne]; exact q⟩
  | .dct _, _, r => by
    unfold RD at r ⊢
    obtain ⟨kvs, e, a, ev, k, n, nf⟩ := r
    have hne : a ≠ p := fun z => nf (z ▸ hp)
    exact ⟨kvs, e, a, ev, by rw [upd_ne hne]; exact k, n, nf⟩
  | .opq _, _, r => by
    unfold RD at r ⊢
    obtain ⟨a, e, n, nf, k⟩ := r
    have hne : a ≠ p := fun z => nf (z ▸ hp)
    exact ⟨a, e, n, nf, k.go fun o e _ => by rw [upd_ne hne]; exact e⟩
  | .exn c ds, _, r => by
    unfold RD at r ⊢
    obtain ⟨vs, k, q⟩ := r
    refine ⟨vs, k.go fun b o n nf e t => ⟨?_, n, nf⟩, RDs.alt hp nt hH ds vs q⟩
    have hne : b ≠ p := fun z => nf (z ▸ hp)
    rw [upd_ne hne]; exact e
theorem RDs.alt {p : Addr} {xs : HO} {o : HO} (hp : p ∈ Fr) (nt : xs.nt = true) (hH : H p = some xs) : ∀ (ds : List D) (vs : List V), RDs K Fr ρ H ds vs → RDs K Fr ρ (upd H p o) ds vs
  | [], _, r => r
  | d :: ds, _, r => by
    unfold RDs at r ⊢
    obtain ⟨v, t, e, k, q⟩ := r
    exact ⟨v, t, e, RD.alt hp nt hH d v k, RDs.alt hp nt hH ds t q⟩
end
theorem KR.alt {κ : Type} {kvs : List (κ × D)} {vs : List (κ × V)} {p : Addr} {xs : HO} {o : HO} (hp : p ∈ Fr) (nt : xs.nt = true) (hH : H p = some xs) (r : KR K Fr ρ H kvs vs) : KR K Fr ρ (upd H p o) kvs vs := ⟨r.1, RDs.alt hp nt hH _ _ r.2⟩
theorem HR.alt (r : HR K Fr ρ h H) {p : Addr} {xs : HO} {o : HO} (hp : p ∈ Fr) (nt : xs.nt = true) (hH : H p = some xs) (ht : isTb o = false := by rfl) : HR K Fr ρ h (upd H p o) := by
  refine ⟨r.len, r.nd, fun a ha => ?_, fun P q l => tabS_nt (r.tb P q l) hH nt, r.dj, fun n u e => ?_⟩
  · by_cases e : a = p
    · rw [e]; exact ⟨o, upd_same, ht⟩
    · obtain ⟨u, q, t⟩ := r.fr' a ha
      exact ⟨u, by rw [upd_ne e]; exact q, t⟩
  · obtain ⟨a, e1, q⟩ := r.at' n u e
    have hne : a ≠ p := fun z => r.dj a (List.mem_of_getElem? e1) (z ▸ hp)
    refine ⟨a, e1, ?_⟩
    cases u with
    | lst ds => obtain ⟨vs, e, q⟩ := q; exact ⟨vs, by rw [upd_ne hne]; exact e, RDs.alt hp nt hH _ _ q⟩
    | dct ds => obtain ⟨vs, e, q⟩ := q; exact ⟨vs, by rw [upd_ne hne]; exact e, q.alt hp nt hH⟩
    | dctT ds => obtain ⟨vs, e, q⟩ := q; exact ⟨vs, by rw [upd_ne hne]; exact e, q.alt hp nt hH⟩
    | dctN ds => obtain ⟨vs, e, q⟩ := q; exact ⟨vs, by rw [upd_ne hne]; exact e, q.1, RDs.alt hp nt hH _ _ q.2.1, RDs.alt hp nt hH _ _ q.2.2⟩
    | ins _ _ => exact q.elim
    | dead => exact q.elim
/-- no longer set aside -/
theorem HR.back (r : HR K Fr ρ h H) (hs : ∀ a ∈ Fr', a ∈ Fr) : HR K Fr' ρ h H :=
  ⟨r.len, r.nd, fun a ha => r.fr' a (hs a ha), r.tb, fun a ha z => r.dj a ha (hs a z), fun n u e => let ⟨a, e1, q⟩ := r.at' n u e; ⟨a, e1, q.fr (sub_fr hs)⟩⟩
mutual
theorem RD.own {p : Addr} {xs : HO} (hp : p ∈ Fr) (nt : xs.nt = true) (hH : H p = some xs) : ∀ (d : D) (v : V), RD K Fr ρ H d v → RD K Fr (ρ ++ [p]) H d v
  | .non, _, r => r
  | .bl _, _, r => r
  | .int _, _, r => r
  | .str _, _, r => r
  | .ktp _, _, r => by
    unfold RD at r ⊢
    obtain ⟨a, e, k⟩ := r
    refine ⟨a, e, k.imp (fun k => ⟨k.1, fun z => ?_⟩) id⟩
    rcases List.mem_append.mp z with z | z
    · exact k.2 z
    · obtain ⟨o', k1, d⟩ := k.1
      exact ne_of k1 hH (by intro z; cases z; cases nt) (List.mem_singleton.mp z)
  | .kpp _, _, r => by
    unfold RD at r ⊢
    obtain ⟨a, e, o', qs, k1, d, n, q⟩ := r
    refine ⟨a, e, o', qs, k1, d, fun z => ?_, paired_imp q fun z p y => ⟨y.1, fun z => ?_⟩⟩
    · rcases List.mem_append.mp z with z | z
      · exact n z
      · exact ne_of k1 hH (by intro z; cases z; cases nt) (List.mem_singleton.mp z)
    · rcases List.mem_append.mp z with z | z
      · exact y.2 z
      · exact ne_of y.1 hH (by intro z; cases z; cases nt) (List.mem_singleton.mp z)
  | .ref n, _, r => by
    unfold RD at r ⊢
    obtain ⟨a, e, k⟩ := r
    exact ⟨a, e, by rw [List.getElem?_append_left (List.getElem?_eq_some_iff.mp k).1]; exact k⟩
  | .tup ds, _, r => by
    unfold RD at r ⊢
    obtain ⟨a, vs, e, k, n, q⟩ := r
    refine ⟨a, vs, e, k, fun z => ?_, RDs.own hp nt hH ds vs q⟩
    rcases List.mem_append.mp z with z | z
    · exact n z
    · exact ne_of k hH (by intro z; cases z; cases nt) (List.mem_singleton.mp z)
  | .lst ds, _, r => by
    unfold RD at r ⊢
    obtain ⟨a, vs, e, k, n, nf, q⟩ := r
    refine ⟨a, vs, e, k, fun z => ?_, nf, RDs.own hp nt hH ds vs q⟩
    rcases List.mem_append.mp z with z | z
    · exact n z
    · rw [List.mem_singleton] at z; exact nf (z ▸ hp)
  | .scr ns, _, r => by
    unfold RD at r ⊢
    obtain ⟨a, e, k⟩ := r
    refine ⟨a, e, k.imp (fun k => ⟨⟨k.1.1, fun z => ?_⟩, k.2⟩) id⟩
    rcases List.mem_append.mp z with z | z
    · exact k.1.2 z
    · rw [List.mem_singleton] at z; exact k.2 (z ▸ hp)
  | .dct _, _, r => by
    unfold RD at r ⊢
    obtain ⟨kvs, e, a, ev, k, n, nf⟩ := r
    refine ⟨kvs, e, a, ev, k, fun z => ?_, nf⟩
    rcases List.mem_append.mp z with z | z
    · exact n z
    · rw [List.mem_singleton] at z; exact nf (z ▸ hp)
  | .opq _, _, r => by
    unfold RD at r ⊢
    obtain ⟨a, e, n, nf, k⟩ := r
    refine ⟨a, e, fun z => ?_, nf, k⟩
    rcases List.mem_append.mp z with z | z
    · exact n z
    · rw [List.mem_singleton] at z; exact nf (z ▸ hp)
  | .exn c ds, _, r => by
    unfold RD at r ⊢
    obtain ⟨vs, k, q⟩ := r
    refine ⟨vs, k.go fun b o n nf e t => ⟨e, fun z => ?_, nf⟩, RDs.own hp nt hH ds vs q⟩
    rcases List.mem_append.mp z with z | z
    · exact n z
    · rw [List.mem_singleton] at z; exact nf (z ▸ hp)
theorem RDs.own {p : Addr} {xs : HO} (hp : p ∈ Fr) (nt : xs.nt = true) (hH : H p = some xs) : ∀ (ds : List D) (vs : List V), RDs K Fr ρ H ds vs → RDs K Fr (ρ ++ [p]) H ds vs
  | [], _, r => r
  | d :: ds, _, r => by
    unfold RDs at r ⊢
    obtain ⟨v, t, e, k, q⟩ := r
    exact ⟨v, t, e, RD.own hp nt hH d v k, RDs.own hp nt hH ds t q⟩
end
/-- what was made aside comes to be a cell -/
theorem OR.own {p : Addr} {xs : HO} (hp : p ∈ Fr) (nt : xs.nt = true) (hH : H p = some xs) {o : Ob} {a : Addr} (r : OR K Fr ρ H o a) : OR K Fr (ρ ++ [p]) H o a := by
  cases o with
  | lst ds => obtain ⟨vs, e, q⟩ := r; exact ⟨vs, e, RDs.own hp nt hH _ _ q⟩
  | dct ds => obtain ⟨vs, e, q⟩ := r; exact ⟨vs, e, q.1, RDs.own hp nt hH _ _ q.2⟩
  | dctT ds => obtain ⟨vs, e, q⟩ := r; exact ⟨vs, e, q.1, RDs.own hp nt hH _ _ q.2⟩
  | dctN ds => obtain ⟨vs, e, q⟩ := r; exact ⟨vs, e, q.1, RDs.own hp nt hH _ _ q.2.1, RDs.own hp nt hH _ _ q.2.2⟩
  | ins _ _ => exact r.elim
  | dead => exact r.elim
theorem HR.ownO {p : Addr} {b : Ob} {xs : HO} (r : HR K (p :: Fr) ρ h H) (hf : p ∉ Fr) (nt : xs.nt = true) (hH : H p = some xs) (q : OR K (p :: Fr) ρ H b p) : HR K Fr (ρ ++ [p]) (h ++ [b]) H := by
  have hpF : p ∈ p :: Fr := List.mem_cons_self
  have hs : ∀ a ∈ Fr, a ∈ p :: Fr := fun a ha => List.mem_cons_of_mem _ ha
  have hpρ : p ∉ ρ := fun z => r.dj p z hpF
  refine ⟨by simp [r.len], ?_, fun a ha => r.fr' a (hs a ha), r.tb, fun a ha => ?_, fun n u e => ?_⟩
  · rw [List.nodup_append]
    exact ⟨r.nd, by simp, fun a ha b hb => by rw [List.mem_singleton] at hb; subst hb; rintro rfl; exact hpρ ha⟩
  · rcases List.mem_append.mp ha with z | z
    · exact fun y => r.dj a z (hs a y)
    · rw [List.mem_singleton] at z; subst z; exact hf
  · by_cases hn : n < h.length
    · rw [List.getElem?_append_left hn] at e
      obtain ⟨a, e1, q1⟩ := r.at' n u e
      exact ⟨a, by rw [List.getElem?_append_left (List.getElem?_eq_some_iff.mp e1).1]; exact e1, (OR.own hpF nt hH q1).fr (sub_fr hs)⟩
    · have hn' : n = h.length := by
        have := (List.getElem?_eq_some_iff.mp e).1
        simp at this; omega
      subst hn'
      rw [List.getElem?_append_right (Nat.le_refl _)] at e
      simp at e; subst e
      refine ⟨p, ?_, (OR.own hpF nt hH q).fr (sub_fr hs)⟩
      rw [← r.len, List.getElem?_append_right (Nat.le_refl _)]; simp
theorem HR.own {p : Addr} {ds : List D} {vs : List V} (r : HR K (p :: Fr) ρ h H) (hf : p ∉ Fr) (hH : H p = some (.lst vs)) (q : RDs K (p :: Fr) ρ H ds vs) : HR K Fr (ρ ++ [p]) (h ++ [.lst ds]) H :=
  r.ownO hf rfl hH ⟨vs, hH, q⟩
end

/-! ### what is walked -/
/-- the walk J goes through xs, while the cells of w stand -/
def IW (K : PySem.W.Frag) (Fr : List Addr) (J : L2.It) (ρ0 : List Addr) (H0 : Hp) (xs : List D) (w : Watch) : Prop :=
  ∀ Fr' i ρ H h, (∀ a ∈ Fr', a ∈ Fr ∨ H0 a = none) → Ext ρ0 H0 ρ H → HR K Fr' ρ h H → stands h w = true →
    (∀ d, xs[i]? = some d → J.go i H ∧ ∀ x H', J.yld i H x H' → Ext ρ H ρ H' ∧ HR K Fr' ρ h H' ∧ RD K Fr' ρ H' d x ∧ ∀ a o, H a = some o → H' a = some o) ∧ (i = xs.length → J.stop i H)
def TIk (K : PySem.W.Frag) (W : EK K) (f : Env' → Hq → R Its') : TI := fun σ H R => ∃ Fr ρ s h, HR K Fr ρ h H ∧ SR K Fr ρ H s σ ∧
  okR (fun p => ∀ J ρ' H', Ext ρ H ρ' H' → HR K Fr ρ' p.2.2 H' → IW K Fr J ρ' H' p.1 p.2.1 → R J H') (W.p Fr ρ H σ) (f s h)
def SI (X : Cx) (W : EK X.K) (tg it : Expr) (f : Env' → Hq → R Its') : Prop := PI X tg it (TIk X.K W f)
section
variable {X : Cx} {W : EK X.K} {tg : Expr}
theorem PI.imp {it : Expr} {t t' : TI} (h : PI X tg it t) (i : ∀ σ H Q, t' σ H Q → t σ H Q) : PI X tg it t' := ⟨fun pins s σ H Q I q => h.run pins s σ H Q I (i _ _ _ q)⟩
theorem PI.or {it : Expr} {t t' : TI} (h : PI X tg it t) (h' : PI X tg it t') : PI X tg it (fun σ H R => t σ H R ∨ t' σ H R) := ⟨fun pins s σ H Q I q => q.elim (fun q => h.run pins s σ H Q I q) fun q => h'.run pins s σ H Q I q⟩
/-- a list that stays, one that stands as a cell, a tuple -/
theorem iw_list {K : PySem.W.Frag} {Fr ρ0 : List Addr} {H0 : Hp} {a : Addr} {xs : List D} {w : Watch}
    (at' : ∀ Fr' ρ H h, (∀ a ∈ Fr', a ∈ Fr ∨ H0 a = none) → Ext ρ0 H0 ρ H → HR K Fr' ρ h H → stands h w = true → ∃ vs, SqL K H a vs ∧ RDs K Fr' ρ H xs vs) : IW K Fr (Itl K a) ρ0 H0 xs w := by
  intro Fr' i ρ H h hf x r st
  obtain ⟨vs, s, q⟩ := at' Fr' ρ H h hf x r st
  refine ⟨fun d e => ?_, fun e => ⟨vs, s, by rw [← q.length, e]; exact Nat.le_refl _⟩⟩
  obtain ⟨v, e1, k⟩ := q.get e
  refine ⟨⟨vs, v, s, e1⟩, fun y H' hy => ?_⟩
  obtain ⟨e2, hy⟩ := hy
  subst e2
  have e3 := hy vs s
  rw [e1] at e3
  cases e3
  exact ⟨.refl, r, k, fun _ _ e => e⟩
theorem iw_tup {K : PySem.W.Frag} {Fr ρ0 : List Addr} {H0 : Hp} {a : Addr} {xs : List D} {w : Watch}
    (at' : ∀ Fr' ρ H h, (∀ a ∈ Fr', a ∈ Fr ∨ H0 a = none) → Ext ρ0 H0 ρ H → HR K Fr' ρ h H → stands h w = true → ∃ vs, SqT K H a vs ∧ RDs K Fr' ρ H xs vs) : IW K Fr (Itt K a) ρ0 H0 xs w := by
  intro Fr' i ρ H h hf x r st
  obtain ⟨vs, s, q⟩ := at' Fr' ρ H h hf x r st
  refine ⟨fun d e => ?_, fun e => ⟨vs, s, by rw [← q.length, e]; exact Nat.le_refl _⟩⟩
  obtain ⟨v, e1, k⟩ := q.get e
  refine ⟨⟨vs, v, s, e1⟩, fun y H' hy => ?_⟩
  obtain ⟨e2, hy⟩ := hy
  subst e2
  have e3 := hy vs s
  rw [e1] at e3
  cases e3
  exact ⟨.refl, r, k, fun _ _ e => e⟩
/-- the sequence d, later: as a list or as a tuple -/
theorem lst_later {K : PySem.W.Frag} {Fr ρ0 : List Addr} {H0 : Hp} {h0 : Hq} (r0 : HR K Fr ρ0 h0 H0) {d : D} {v : V} {xs : List D} (k : RD K Fr ρ0 H0 d v) (e : itemsOf h0 d = some xs) (nt : isTupD d = false) :
    ∃ a, v = .ref a ∧ (∃ vs, SqL K H0 a vs) ∧ ∀ w Fr' ρ H h, (∀ p ∈ watchOf d xs, p ∈ w) → (∀ a ∈ Fr', a ∈ Fr ∨ H0 a = none) → Ext ρ0 H0 ρ H → HR K Fr' ρ h H → stands h w = true → ∃ vs, SqL K H a vs ∧ RDs K Fr' ρ H xs vs := by
  cases d with
  | tup ds => cases nt
  | ktp ns => cases nt
  | kpp ns => cases nt
  | lst ds =>
    cases e
    obtain ⟨a, vs, rfl, s0, _⟩ := k.sqL
    refine ⟨a, rfl, ⟨vs, .of s0⟩, fun w Fr' ρ H h hw hf x r st => ?_⟩
    obtain ⟨b, ws, e1, s, q⟩ := (RD.mono x _ _ (RD.fr hf _ _ k)).sqL
    cases e1
    exact ⟨ws, .of s, q⟩
  | scr ns =>
    obtain ⟨a, vs, rfl, s0, _⟩ := r0.sql k (show sqlOf h0 (.scr ns) = some xs from e)
    refine ⟨a, rfl, ⟨vs, s0⟩, fun w Fr' ρ H h hw hf x r st => ?_⟩
    obtain ⟨b, ws, e1, s, q⟩ := r.sql (RD.mono x _ _ (RD.fr hf _ _ k)) (show sqlOf h (.scr ns) = some xs from e)
    cases e1
    exact ⟨ws, s, q⟩
  | ref n =>
    have hn0 : h0[n]? = some (.lst xs) := by
      dsimp only [itemsOf] at e
      split at e
      · rename_i hn; cases e; exact hn
      · cases e
    obtain ⟨a, vs, rfl, _, s0, _⟩ := r0.lst k hn0
    refine ⟨a, rfl, ⟨vs, .of s0⟩, fun w Fr' ρ H h hw hf x r st => ?_⟩
    have hn := stands_at st (n := n) (ds := xs) (hw _ List.mem_cons_self)
    obtain ⟨b, ws, e1, _, s, q⟩ := r.lst (RD.mono x _ _ (RD.fr hf _ _ k)) hn
    cases e1
    exact ⟨ws, .of s, q⟩
  | _ => cases e
theorem tup_later {K : PySem.W.Frag} {Fr ρ0 : List Addr} {H0 : Hp} {h0 : Hq} {d : D} {v : V} {xs : List D} (k : RD K Fr ρ0 H0 d v) (e : itemsOf h0 d = some xs) (nt : isTupD d = true) :
    ∃ a, v = .ref a ∧ (∃ vs, SqT K H0 a vs) ∧ ∀ Fr' ρ H h, (∀ a ∈ Fr', a ∈ Fr ∨ H0 a = none) → Ext ρ0 H0 ρ H → HR K Fr' ρ h H → ∃ vs, SqT K H a vs ∧ RDs K Fr' ρ H xs vs := by
  cases d with
  | tup ds =>
    cases e
    obtain ⟨a, vs, rfl, s0, _⟩ := k.tupl
    refine ⟨a, rfl, ⟨vs, .of s0⟩, fun Fr' ρ H h hf x r => ?_⟩
    obtain ⟨b, ws, e1, s, q⟩ := (RD.mono x _ _ (RD.fr hf _ _ k)).sqT
    cases e1
    exact ⟨ws, s, q⟩
  | ktp ns =>
    cases e
    unfold RD at k
    obtain ⟨a, rfl, k⟩ := k
    exact ⟨a, rfl, ⟨_, k.sqT⟩, fun Fr' ρ H h hf x r => ⟨_, (k.mono x).sqT, RDs.of_ints _⟩⟩
  | kpp ps =>
    cases e
    unfold RD at k
    obtain ⟨a, rfl, k⟩ := k
    obtain ⟨vs, s0, _⟩ := k.rds (K := K) (Fr := Fr)
    exact ⟨a, rfl, ⟨vs, s0⟩, fun Fr' ρ H h hf x r => (k.mono x).rds⟩
  | _ => cases nt
theorem itD_seq {d : D} {h : Hq} {p : Its'} (e : itD d h = some p) (ns : isStrD d = false) : ∃ xs, itemsOf h d = some xs ∧ p = (xs, watchOf d xs, h) := by
  unfold itD at e
  split at e
  · split at e
    · rename_i n ds hn
      cases e
      exact ⟨ds, by dsimp only [itemsOf]; rw [hn], rfl⟩
    · cases e
  · cases ns
  · split at e
    · rename_i hn _ _ ds hd
      cases e
      refine ⟨ds, hd, ?_⟩
      cases d <;> first | rfl | (exact absurd rfl (hn _))
    · cases e
/-- e, a list or a tuple or a text -/
theorem si_ex {e : Expr} {fe : Env' → Hq → R (D × Hq)} (he : SE X W e fe) : SI X W tg e (fun s h => (fe s h).bind fun p => lift (itD p.1 p.2)) := by
  refine PI.imp (PI.or (pi_list he) (PI.or (pi_tup he) (pi_str he))) fun σ H Rr ⟨Fr, ρ, s, h, r, sr, ok⟩ => ?_
  dsimp only at ok
  cases e1 : fe s h with
  | stuck => rw [e1] at ok; exact ok.elim
  | exc a b => rw [e1] at ok; exact .inl ⟨Fr, ρ, s, h, r, sr, by rw [e1]; exact ok⟩
  | ok p =>
    rw [e1] at ok
    obtain ⟨q, e2, k⟩ := okR_lift (show okR _ _ (lift (itD p.1 p.2)) from ok)
    cases hs : isStrD p.1 with
    | true =>
      refine .inr (.inr ⟨Fr, ρ, s, h, r, sr, ?_⟩)
      rw [e1]
      intro v ρ1 H1 x1 r1 d1
      obtain ⟨p1, p2⟩ := p
      dsimp only at hs
      cases p1 with
      | str z =>
        unfold itD at e2
        cases e2
        refine ⟨z, rd_str.mp d1, k _ ρ1 H1 x1 r1 ?_⟩
        intro Fr' i ρ2 H2 h2 hf x r st
        refine ⟨fun d e => ?_, fun e => ?_⟩
        · obtain ⟨c, hc, rfl⟩ : ∃ c, z.cps.toList[i]? = some c ∧ d = .str ⟨#[c]⟩ := by
            rw [List.getElem?_map] at e
            obtain ⟨c, h1, h2⟩ := Option.map_eq_some_iff.mp e
            exact ⟨c, h1, h2.symm⟩
          have hi : i < z.cps.size := by have := (List.getElem?_eq_some_iff.mp hc).1; simpa using this
          refine ⟨hi, fun y H' hy => ?_⟩
          obtain ⟨e3, c', hc', e4⟩ := hy
          subst e3 e4
          have : c' = c := by
            rw [Array.getElem?_toList] at hc
            rw [hc] at hc'; cases hc'; rfl
          subst this
          exact ⟨.refl, r, rd_str.mpr rfl, fun _ _ e => e⟩
        · show z.cps.size ≤ i
          rw [e]; simp
      | _ => cases hs
    | false =>
      obtain ⟨xs, e3, e4⟩ := itD_seq e2 hs
      subst e4
      cases ht : isTupD p.1 with
      | false =>
        refine .inl ⟨Fr, ρ, s, h, r, sr, ?_⟩
        rw [e1]
        intro v ρ1 H1 x1 r1 d1
        obtain ⟨a, e5, e6, e7⟩ := lst_later r1 d1 e3 ht
        exact ⟨a, e5, e6, k _ ρ1 H1 x1 r1 (iw_list fun Fr' ρ H h hf x r st => e7 _ Fr' ρ H h (fun _ m => m) hf x r st)⟩
      | true =>
        refine .inr (.inl ⟨Fr, ρ, s, h, r, sr, ?_⟩)
        rw [e1]
        intro v ρ1 H1 x1 r1 d1
        obtain ⟨a, e5, e6, e7⟩ := tup_later d1 e3 ht
        exact ⟨a, e5, e6, k _ ρ1 H1 x1 r1 (iw_tup fun Fr' ρ H h hf x r st => e7 Fr' ρ H h hf x r)⟩
theorem iw_range {K : PySem.W.Frag} {Fr ρ0 : List Addr} {H0 : Hp} {lo hi : Int} : IW K Fr (Itr lo (hi - lo).toNat) ρ0 H0 (rangeL lo hi) [] := by
  intro Fr' i ρ H h hf x r st
  refine ⟨fun d e => ?_, fun e => ?_⟩
  · unfold rangeL at e
    rw [List.getElem?_map] at e
    obtain ⟨c, h1, h2⟩ := Option.map_eq_some_iff.mp e
    have hc : i < (hi - lo).toNat ∧ c = i := by
      obtain ⟨h3, h4⟩ := List.getElem?_eq_some_iff.mp h1
      simp at h3 h4
      exact ⟨by omega, h4.symm⟩
    refine ⟨hc.1, fun y H' hy => ?_⟩
    obtain ⟨e3, e4⟩ := hy
    subst e3 e4
    rw [← h2, hc.2]
    exact ⟨.refl, r, rd_int.mpr rfl, fun _ _ e => e⟩
  · show (hi - lo).toNat ≤ i
    rw [e]; unfold rangeL; simp
theorem si_range1 {e : Expr} {p pos : Pos} {fe : Env' → Hq → R (D × Hq)} (hg : Gl X "range") (hm : X.mg "range" = none) (he : SE X W e fe) (hs : starEach [e] X.env = [(false, eval e X.env)]) : SI X W tg (.Call (.Name "range" p) [e] [] pos) (fun s h => (fe s h).bind fun p => lift (rng1D p.1 p.2)) := by
  refine PI.imp (pi_range1 hg hm (pa_cons he pa_nil (by rw [hs]; rfl)) hs) fun σ H Rr ⟨Fr, ρ, s, h, r, sr, ok⟩ => ?_
  refine ⟨Fr, ρ, s, h, r, sr, (okR_bind.mp ok).mono (fun p q v ρ1 H1 x1 r1 d1 => ?_) fun _ _ z => z⟩
  obtain ⟨y, e, k⟩ := okR_lift q
  obtain ⟨p1, p2⟩ := p
  dsimp only at e d1
  unfold rng1D at e
  split at e
  · rename_i j
    split at e
    · rename_i hj
      cases e
      refine ⟨j, by rw [rd_int.mp d1], hj.1, hj.2, k _ ρ1 H1 x1 r1 ?_⟩
      have := iw_range (K := X.K) (Fr := Fr) (ρ0 := ρ1) (H0 := H1) (lo := 0) (hi := j)
      simpa using this
    · cases e
  · cases e
end
end FF

/-! FFSE8: targets; comprehensions. -/
namespace FF
open PySem PySem.Spec PyProof.Rows L2

mutual
def Tg.slots : Tg → List Nat
  | .name i => [i]
  | .tup ts => Tgs.slots ts
def Tgs.slots : Tgs → List Nat
  | .nil => []
  | .cons t ts => Tg.slots t ++ Tgs.slots ts
end
theorem wipe_set {vs : List Nat} {i : Nat} {x : Option V} (hi : i ∈ vs) : ∀ (σ : L2.St), wipe (σ.set i x) vs = wipe σ vs := by
  intro σ
  induction vs with
  | nil => cases hi
  | cons v vs ih =>
    unfold wipe
    by_cases e : i ∈ vs
    · rw [ih e]
    · have : i = v := by rcases List.mem_cons.mp hi with h | h; exact h; exact absurd h e
      subst this
      clear ih hi
      have key : ∀ vs : List Nat, i ∉ vs → wipe (σ.set i x) vs = (wipe σ vs).set i x := by
        intro vs
        induction vs with
        | nil => intro _; rfl
        | cons w ws ih =>
          intro h
          unfold wipe
          rw [List.mem_cons, not_or] at h
          rw [ih h.2, List.set_comm _ _ (fun z => h.1 z)]
      rw [key vs e]
      simp
theorem wipe_comm {vs : List Nat} {i : Nat} (σ : L2.St) : wipe (σ.set i none) vs = (wipe σ vs).set i none := by
  induction vs with
  | nil => rfl
  | cons v vs ih =>
    unfold wipe
    rw [ih]
    by_cases e : v = i
    · rw [e]
    · rw [List.set_comm _ _ (fun z => e z.symm)]
theorem wipe_idem (σ : L2.St) : ∀ vs : List Nat, wipe (wipe σ vs) vs = wipe σ vs := by
  intro vs
  induction vs with
  | nil => rfl
  | cons v vs ih =>
    show (wipe ((wipe σ vs).set v none) vs).set v none = (wipe σ vs).set v none
    rw [wipe_comm, ih]
    simp
section
variable {K : PySem.W.Frag} {Fr ρ : List Addr} {H : Hp}
theorem SR.set {s : Env'} {σ : L2.St} {i : Nat} {d : D} {v : V} (r : SR K Fr ρ H s σ) (k : RD K Fr ρ H d v) : SR K Fr ρ H (s.set i (some d)) (σ.set i (some v)) := by
  refine ⟨by simp [r.len], fun j e h => ?_⟩
  by_cases hj : i = j
  · subst hj
    have hl : i < s.length := by have := (List.getElem?_eq_some_iff.mp h).1; simpa using this
    rw [List.getElem?_set_self hl] at h
    cases h
    exact ⟨v, List.getElem?_set_self (by rw [← r.len]; exact hl), k⟩
  · rw [List.getElem?_set_ne hj] at h
    obtain ⟨w, e1, q⟩ := r.get j e h
    exact ⟨w, by rw [List.getElem?_set_ne hj]; exact e1, q⟩
theorem SR.unset {s : Env'} {σ : L2.St} {i : Nat} (r : SR K Fr ρ H s σ) : SR K Fr ρ H (s.set i none) (σ.set i none) := by
  refine ⟨by simp [r.len], fun j e h => ?_⟩
  by_cases hj : i = j
  · subst hj
    have hl : i < s.length := by have := (List.getElem?_eq_some_iff.mp h).1; simpa using this
    rw [List.getElem?_set_self hl] at h
    cases h
  · rw [List.getElem?_set_ne hj] at h
    obtain ⟨w, e1, q⟩ := r.get j e h
    exact ⟨w, by rw [List.getElem?_set_ne hj]; exact e1, q⟩
theorem SR.wipe {s : Env'} {σ : L2.St} (r : SR K Fr ρ H s σ) : ∀ vs : List Nat, SR K Fr ρ H (wipe' s vs) (L2.wipe σ vs)
  | [] => r
  | v :: vs => SR.unset (SR.wipe r vs)
end
/-- the old slots but those of a target -/
def Only' (σ σ' : L2.St) (is : List Nat) : Prop := ∀ vs : List Nat, (∀ i ∈ is, i ∈ vs) → L2.wipe σ' vs = L2.wipe σ vs
def TGk (K : PySem.W.Frag) (c : Tg) : TG := fun v σ H Q => ∃ Fr ρ h s d s', HR K Fr ρ h H ∧ SR K Fr ρ H s σ ∧ RD K Fr ρ H d v ∧ asg c d s = some s' ∧ ∀ σ', SR K Fr ρ H s' σ' → Only' σ σ' c.slots → Q σ' H
def TGks (K : PySem.W.Frag) (c : Tgs) : TGs := fun vs σ H Q => ∃ Fr ρ h s ds s', HR K Fr ρ h H ∧ SR K Fr ρ H s σ ∧ RDs K Fr ρ H ds vs ∧ asgs c ds s = some s' ∧ ∀ σ', SR K Fr ρ H s' σ' → Only' σ σ' c.slots → Q σ' H
def SG (X : Cx) (tg : Expr) (c : Tg) : Prop := PG X tg (TGk X.K c)
def SGs (X : Cx) (tgs : List Expr) (c : Tgs) : Prop := PGs X tgs (TGks X.K c)
section
variable {X : Cx} {W : EK X.K}
theorem PG.imp {e : Expr} {t t' : TG} (h : PG X e t) (i : ∀ v σ H Q, t' v σ H Q → t v σ H Q) : PG X e t' := ⟨fun pins s σ H v u Q I r q => h.run pins s σ H v u Q I r (i _ _ _ _ q)⟩
theorem PGs.imp {e : List Expr} {t t' : TGs} (h : PGs X e t) (i : ∀ v σ H Q, t' v σ H Q → t v σ H Q) : PGs X e t' := ⟨fun pins s σ H v u Q I r q => h.run pins s σ H v u Q I r (i _ _ _ _ q)⟩
theorem sg_name {x : Str} {pos : Pos} {i : Nat} (hN : X.N.Nodup) (hi : X.N[i]? = some x) (hx : Loc X.env.scope x) (hf : X.fn x = true ∨ X.env.scope.names.lookup x = some .local) : SG X (.Name x pos) (.name i) := by
  refine PG.imp (pg_name hN hi hx hf) fun v σ H Q ⟨Fr, ρ, h, s, d, s', r, sr, k, e, q⟩ => ?_
  unfold asg at e
  split at e
  · cases e
    exact q _ (sr.set k) fun vs hv => wipe_set (hv i List.mem_cons_self) σ
  · cases e
theorem sgs_nil : SGs X [] .nil := by
  refine PGs.imp pgs_nil fun vs σ H Q ⟨Fr, ρ, h, s, ds, s', r, sr, k, e, q⟩ => ?_
  cases ds with
  | nil =>
    unfold asgs at e
    cases e
    unfold RDs at k
    exact ⟨k, q σ sr fun _ _ => rfl⟩
  | cons _ _ => unfold asgs at e; cases e
theorem sgs_cons {e : Expr} {es : List Expr} {c : Tg} {cs : Tgs} (h1 : SG X e c) (h2 : SGs X es cs) (hs : (assignEach (e :: es) X.env).map (·.2) = assign e X.env :: (assignEach es X.env).map (·.2)) : SGs X (e :: es) (.cons c cs) := by
  refine PGs.imp (pgs_cons h1 h2 hs) fun vs σ H Q ⟨Fr, ρ, h, s, ds, s', r, sr, k, e, q⟩ => ?_
  cases ds with
  | nil => unfold asgs at e; cases e
  | cons d ds =>
    unfold asgs at e
    split at e
    · rename_i s1 e1
      unfold RDs at k
      obtain ⟨v, t, rfl, k1, k2⟩ := k
      refine ⟨v, t, rfl, Fr, ρ, h, s, d, s1, r, sr, k1, e1, fun σ1 sr1 o1 => ?_⟩
      refine ⟨Fr, ρ, h, s1, ds, s', r, sr1, k2, e, fun σ2 sr2 o2 => q σ2 sr2 fun vs hv => ?_⟩
      rw [o2 vs fun i hi => hv i (List.mem_append_right _ hi)]
      exact o1 vs fun i hi => hv i (List.mem_append_left _ hi)
    · cases e
def Tgs.len : Tgs → Nat
  | .nil => 0
  | .cons _ ts => ts.len + 1
theorem asgs_length : ∀ {c : Tgs} {ds : List D} {s s' : Env'}, asgs c ds s = some s' → ds.length = c.len
  | .nil, [], _, _, _ => rfl
  | .nil, _ :: _, _, _, e => by unfold asgs at e; cases e
  | .cons _ _, [], _, _, e => by unfold asgs at e; cases e
  | .cons t ts, d :: ds, s, s', e => by
    unfold asgs at e
    split at e
    · unfold Tgs.len; rw [List.length_cons, asgs_length e]
    · cases e
theorem sg_tup {es : List Expr} {k : Nat} {pos : Pos} {cs : Tgs} (hc : X.calm = true) (h : SGs X es cs) (hn : (assignEach es X.env).length = cs.len) (hst : (assignEach es X.env).findIdx? (·.1) = none) : SG X (.Tuple es k pos) (.tup cs) := by
  refine PG.imp (pg_tup hc h hn hst) fun v σ H Q ⟨Fr, ρ, h, s, d, s', r, sr, k, e, q⟩ => ?_
  cases d with
  | tup ds =>
    unfold asg at e
    dsimp only at e
    obtain ⟨a, vs, rfl, st, rs⟩ := k.sqT
    exact ⟨a, vs, rfl, st, by rw [← rs.length]; exact asgs_length e, Fr, ρ, h, s, ds, s', r, sr, rs, e, q⟩
  | _ => unfold asg at e; cases e

/-! ### comprehensions -/
def STs (X : Cx) (W : EK X.K) (ifs : List Expr) (f : Env' → Hq → R (Bool × Hq)) : Prop := PTs X ifs (TTk X.K W f)
theorem PTs.imp {e : List Expr} {t t' : TT} (h : PTs X e t) (i : ∀ σ H Q, t' σ H Q → t σ H Q) : PTs X e t' := ⟨fun pins s σ H Q I q => h.run pins s σ H Q I (i _ _ _ q)⟩
theorem sts_nil : STs X W [] (fun _ h => .ok (true, h)) := PTs.imp pts_nil fun σ H Q ⟨Fr, ρ, s, h, r, sr, ok⟩ => ok ρ H .refl r
theorem sts_one {c : Expr} {f : Env' → Hq → R (Bool × Hq)} (h : ST X W c f) : STs X W [c] f := pts_one h
def compD (live : Bool) (c : Tg) (own : List Nat) (fi : Env' → Hq → R Its') (ft : Env' → Hq → R (Bool × Hq)) (fe : Env' → Hq → R (D × Hq)) : Env' → Hq → R (D × Hq) := fun s h =>
  (fi s h).bind fun p => (turns p.2.1 (fun x h => match asg c x (wipe' s own) with
    | some s' => hush ((ft s' h).bind fun b => if b.1 then (fe s' b.2).bind fun y => .ok (some y.1, y.2) else .ok (none, b.2))
    | none => .stuck) p.1 [] p.2.2).bind fun q => lift (mkL live q.1 q.2)
theorem okR_hush {α : Type} {P : α → Prop} {E E' : D → Hq → Prop} {r : R α} (h : okR P E (hush r)) : okR P E' r := by
  cases r with
  | ok a => exact h
  | exc _ _ => exact h.elim
  | stuck => exact h.elim
theorem Ext.alt {ρ ρ' : List Addr} {H H' : Hp} {p : Addr} {o : HO} (x : Ext ρ H ρ' H') (hp : H p = none) : Ext ρ H ρ' (upd H' p o) :=
  ⟨x.more, fun a u n e t => by rw [upd_ne (ne_of_none e hp)]; exact x.keep a u n e t⟩
theorem comp_t {c : Tg} {own : List Nat} {live : Bool} {fi : Env' → Hq → R Its'} {ft : Env' → Hq → R (Bool × Hq)} {fe : Env' → Hq → R (D × Hq)} {σ : L2.St} {H : Hp} {Q : VK} (hsl : ∀ i ∈ c.slots, i ∈ own)
    (t : TEk X.K W (compD live c own fi ft fe) σ H Q) : tLc (TIk X.K W fi) (TGk X.K c) (TTk X.K (EK.none X.K) ft) (TEk X.K (EK.none X.K) fe) own σ H Q := by
  obtain ⟨Fr, ρ, s, h, r, sr, ok⟩ := t
  refine ⟨Fr, ρ, s, h, r, sr, (okR_bind.mp ok).mono (fun p q J ρ1 H1 x1 r1 iw Dd hD => ?_) fun _ _ z => z⟩
  obtain ⟨xs, w, h1⟩ := p
  dsimp only at q r1 iw
  generalize hstep : (fun (x : D) (h : Hq) => match asg c x (wipe' s own) with
    | some s' => hush ((ft s' h).bind fun b => if b.1 then (fe s' b.2).bind fun y => R.ok (some y.1, y.2) else .ok (none, b.2))
    | none => .stuck) = step at q
  have hf : ∀ a ∈ Dd :: Fr, a ∈ Fr ∨ H1 a = none := fun a ha => (List.mem_cons.mp ha).elim (fun e => .inr (e ▸ hD)) .inl
  let Good : Nat → Hp → Prop := fun i H' => ∃ ρ' h' ds vs, Ext ρ1 H1 ρ' H' ∧ HR X.K (Dd :: Fr) ρ' h' H' ∧ H' Dd = some (.lst vs) ∧ RDs X.K (Dd :: Fr) ρ' H' ds vs ∧
    okR (fun q => okR (Kont X.K Fr ρ H Q) (W.p Fr ρ H σ) (lift (mkL live q.1 q.2))) (W.p Fr ρ H σ) (turns w step (xs.drop i) ds h')
  refine ⟨fun i m H' => m = xs.length - i ∧ i ≤ xs.length ∧ Good i H', ⟨xs.length, by simp, Nat.zero_le _, ρ1, h1, [], [], ext_new hD, r1.aside hD, upd_same, RDs.nil, okR_bind.mp q⟩, ?_⟩
  rintro i m H2 ⟨rfl, hle, ρ2, h2, ds, vs, x2, r2, hv, q2, o2⟩
  by_cases hlt : i < xs.length
  · have e0 : xs.drop i = xs[i] :: xs.drop (i + 1) := (List.drop_eq_getElem_cons hlt)
    rw [e0] at o2
    unfold turns at o2
    split at o2
    · rename_i st
      obtain ⟨w1, _⟩ := iw (Dd :: Fr) i ρ2 H2 h2 hf x2 r2 st
      obtain ⟨go, yl⟩ := w1 xs[i] (List.getElem?_eq_getElem hlt)
      refine .inr ⟨go, Good (i + 1), fun H' g => ⟨xs.length - (i + 1), by omega, rfl, hlt, g⟩, fun x H3 hy => ?_⟩
      obtain ⟨x3, r3, d3, kp⟩ := yl x H3 hy
      have o3 := okR_bind.mp o2
      rw [← hstep] at o3
      dsimp only at o3
      have ne1 : Dd ∉ ρ2 := fun z => r2.dj Dd z List.mem_cons_self
      have hv3 := kp _ _ hv
      have x23 : Ext ρ1 H1 ρ2 H3 := x2.step r2 x3
      have sr3 : SR X.K (Dd :: Fr) ρ2 H3 s σ := ((sr.mono x1).fr hf).mono x23
      cases es' : asg c xs[i] (wipe' s own) with
      | some s' =>
        rw [es', hstep] at o3
        dsimp only at o3
        refine ⟨Dd :: Fr, ρ2, h2, wipe' s own, xs[i], s', r3, sr3.wipe _, d3, es', fun σ' sr' on => ⟨?_, ?_⟩⟩
        · have := on own hsl
          rw [this, wipe_idem]
        · have o4 := okR_bind.mp (okR_hush (E' := fun _ _ => False) o3)
          refine ⟨Dd :: Fr, ρ2, s', h2, r3, sr', o4.mono (fun b q4 ρ4 H4 x4 r4 => ?_) fun _ _ z => z⟩
          obtain ⟨b, h4⟩ := b
          have hv4 : H4 Dd = some (.lst vs) := x4.keep Dd _ ne1 hv3
          have ne4 : Dd ∉ ρ4 := fun z => r4.dj Dd z List.mem_cons_self
          cases b with
          | true =>
            rw [if_pos rfl]
            have q4 : okR _ _ ((fe s' h4).bind fun y => R.ok (some y.1, y.2)) := q4
            refine ⟨Dd :: Fr, ρ4, s', h4, r4, sr'.mono x4, (okR_bind.mp q4).mono (fun y q5 v ρ5 H5 x5 r5 d5 => ?_) fun _ _ z => z⟩
            obtain ⟨y, h5⟩ := y
            have hv5 : H5 Dd = some (.lst vs) := x5.keep Dd _ ne4 hv4
            have q5 : okR _ _ (if lineOk (ds.length + 1) = true then turns w step (xs.drop (i + 1)) (ds ++ [y]) h5 else R.stuck) := q5
            split at q5
            · rename_i hl
              have hl' : ds.length + 1 ≤ sizeLine := lineOk_le hl
              have x35 : Ext ρ2 H3 ρ5 H5 := x4.step r4 x5
              refine ⟨vs, hv5, by rw [← q2.length]; omega, ρ5, h5, ds ++ [y], vs ++ [v], (x23.step r3 x35).alt hD, r5.alt List.mem_cons_self rfl hv5, upd_same, ?_, q5⟩
              exact RDs.alt List.mem_cons_self rfl hv5 _ _ ((RDs.mono (x3.step r3 x35) _ _ q2).append (.cons d5 .nil))
            · exact q5.elim
          | false =>
            rw [if_neg Bool.false_ne_true]
            have q4 : okR _ _ (if lineOk (ds.length + 1) = true then turns w step (xs.drop (i + 1)) ds h4 else R.stuck) := q4
            split at q4
            · exact ⟨ρ4, h4, ds, vs, x23.step r3 x4, r4, hv4, RDs.mono (x3.step r3 x4) _ _ q2, q4⟩
            · exact q4.elim
      | none => rw [es'] at o3; exact o3.elim
    · exact o2.elim
  · have hi' : i = xs.length := by omega
    subst hi'
    rw [List.drop_length] at o2
    unfold turns at o2
    split at o2
    · rename_i st
      obtain ⟨_, w2⟩ := iw (Dd :: Fr) _ ρ2 H2 h2 hf x2 r2 st
      refine .inl ⟨w2 rfl, ?_⟩
      obtain ⟨y, e, k⟩ := okR_lift (show okR (Kont X.K Fr ρ H Q) (W.p Fr ρ H σ) (lift (mkL live ds h2)) from o2)
      have nF : Dd ∉ Fr := fun z => by obtain ⟨u, e⟩ := r1.fr Dd z; rw [hD] at e; cases e
      have nρ : Dd ∉ ρ2 := fun z => r2.dj Dd z List.mem_cons_self
      have x12 : Ext ρ H ρ2 H2 := x1.step r1 x2
      have hD0 : ∀ o, H Dd = some o → isTb o = true := by
        intro o e
        cases ht : isTb o with
        | true => rfl
        | false =>
          exfalso
          by_cases z : Dd ∈ ρ
          · obtain ⟨m, em, _⟩ := x1.more
            obtain ⟨u, e'⟩ := r1.tracked (show Dd ∈ ρ1 by rw [em]; exact List.mem_append_left _ z)
            rw [hD] at e'; cases e'
          · have := x1.keep Dd o z e ht; rw [hD] at this; cases this
      unfold mkL at e
      split at e
      · split at e
        · cases e
          refine k _ (ρ2 ++ [Dd]) H2 ⟨?_, fun a o n e t => x12.keep a o n e t⟩ (r2.own nF hv q2) ?_
          · obtain ⟨m, em, hm⟩ := x12.more
            refine ⟨m ++ [Dd], by rw [em, List.append_assoc], fun a ha => ?_⟩
            rcases List.mem_append.mp ha with z | z
            · exact hm a z
            · rw [List.mem_singleton] at z; rw [z]; exact hD0
          · unfold RD
            exact ⟨Dd, rfl, by rw [List.getElem?_append_right (by rw [r2.len]; exact Nat.le_refl _), r2.len]; simp⟩
        · cases e
          refine k _ ρ2 H2 x12 (r2.back fun a ha => List.mem_cons_of_mem _ ha) ?_
          unfold RD
          exact ⟨Dd, vs, rfl, hv, nρ, nF, RDs.fr (sub_fr fun a ha => List.mem_cons_of_mem _ ha) _ _ q2⟩
      · cases e
    · exact o2.elim
theorem se_comp {elt tg iter : Expr} {ifs : List Expr} {scope : Scope} {own : List (Str × Nat)} {pos : Pos} {live : Bool} {c : Tg} {fi : Env' → Hq → R Its'} {ft : Env' → Hq → R (Bool × Hq)} {fe : Env' → Hq → R (D × Hq)}
    (hc : X.calm = true) (hN : X.N.Nodup) (hi : SI X W tg iter fi) (ok : BlkOk X.N X.env.scope scope own)
    (hg : ∀ (s : Shared) (H : Hp) (C : Addr) (cl : List (Str × Addr)) (fp : List Addr), SG (X.blk s H scope (compEnvC scope cl C X.env) fp) tg c)
    (ht : ∀ (s : Shared) (H : Hp) (C : Addr) (cl : List (Str × Addr)) (fp : List Addr), STs (X.blk s H scope (compEnvC scope cl C X.env) fp) (EK.none X.K) ifs ft)
    (he : ∀ (s : Shared) (H : Hp) (C : Addr) (cl : List (Str × Addr)) (fp : List Addr), SE (X.blk s H scope (compEnvC scope cl C X.env) fp) (EK.none X.K) elt fe)
    (hs : ∀ x, foldedSetIterable iter X.env x = pure x) (hsl : ∀ i ∈ c.slots, i ∈ own.map (·.2)) :
    SE X W (.ListComp elt [⟨tg, iter, ifs, 0⟩] scope pos) (compD live c (own.map (·.2)) fi ft fe) :=
  PE.imp (pe_lc (g := TGk X.K c) (tt := TTk X.K (EK.none X.K) ft) (te := TEk X.K (EK.none X.K) fe) hc hN hi ok hg ht he hs) fun _ _ _ t => comp_t hsl t
end
end FF

/-! FFST: statements. -/
namespace FF
open PySem PySem.Spec PyProof.Rows L2

/-- what leaves does not hang on the slots -/
def EK.flat {K : PySem.W.Frag} (W : EK K) : Prop := ∀ Fr ρ H σ σ' e h, W.p Fr ρ H σ e h → W.p Fr ρ H σ' e h
theorem EK.none_flat {K : PySem.W.Frag} : (EK.none K).flat := fun _ _ _ _ _ _ _ h => h
def KontS (K : PySem.W.Frag) (Fr ρ : List Addr) (H : Hp) (Z : Ends) : Fl → Prop
  | .nx s h => ∀ σ' ρ' H', Ext ρ H ρ' H' → HR K Fr ρ' h H' → SR K Fr ρ' H' s σ' → Z.nx σ' H'
  | .rt d h => ∀ v ρ' H', Ext ρ H ρ' H' → HR K Fr ρ' h H' → RD K Fr ρ' H' d v → Z.rt v H'
  | .bk s h => ∀ σ' ρ' H', Ext ρ H ρ' H' → HR K Fr ρ' h H' → SR K Fr ρ' H' s σ' → Z.bk σ' H'
  | .ct s h => ∀ σ' ρ' H', Ext ρ H ρ' H' → HR K Fr ρ' h H' → SR K Fr ρ' H' s σ' → Z.ct σ' H'
def TSk (K : PySem.W.Frag) (W : EK K) (f : Env' → Hq → R Fl) : TS := fun Z σ H => ∃ Fr ρ s h, HR K Fr ρ h H ∧ SR K Fr ρ H s σ ∧ okR (KontS K Fr ρ H Z) (W.p Fr ρ H σ) (f s h)
def SS (X : Cx) (W : EK X.K) (st : Stmt) (f : Env' → Hq → R Fl) : Prop := PS X st (TSk X.K W f)
def SB (X : Cx) (W : EK X.K) (st : List Stmt) (f : Env' → Hq → R Fl) : Prop := PSs X st (TSk X.K W f)
section
variable {X : Cx} {W : EK X.K} {pos : Pos}
theorem KontS.mono {K : PySem.W.Frag} {Fr ρ ρ1 : List Addr} {H H1 : Hp} {h1 : Hq} {Z : Ends} {f : Fl} (k : KontS K Fr ρ H Z f) (x : Ext ρ H ρ1 H1) (r : HR K Fr ρ1 h1 H1) : KontS K Fr ρ1 H1 Z f := by
  cases f with
  | nx s h => exact fun σ' ρ' H' y r' sr => k σ' ρ' H' (x.step r y) r' sr
  | rt d h => exact fun v ρ' H' y r' sr => k v ρ' H' (x.step r y) r' sr
  | bk s h => exact fun σ' ρ' H' y r' sr => k σ' ρ' H' (x.step r y) r' sr
  | ct s h => exact fun σ' ρ' H' y r' sr => k σ' ρ' H' (x.step r y) r' sr

/-! ### blocks -/
theorem sb_nil : SB X W [] (fun s h => .ok (.nx s h)) := PSs.imp pss_nil fun Z σ H ⟨Fr, ρ, s, h, r, sr, ok⟩ => ok σ ρ H .refl r sr
def seqF (g : Env' → Hq → R Fl) : Fl → R Fl
  | .nx s h => g s h
  | f => .ok f
theorem sb_cons {a : Stmt} {rest : List Stmt} {f g : Env' → Hq → R Fl} (hW : W.flat) (h1 : SS X W a f) (h2 : SB X W rest g) : SB X W (a :: rest) (fun s h => (f s h).bind (seqF g)) := by
  refine PSs.imp (pss_cons h1 h2) fun Z σ H ⟨Fr, ρ, s, h, r, sr, ok⟩ => ⟨Fr, ρ, s, h, r, sr, (okR_bind.mp ok).mono (fun p q => ?_) fun _ _ z => z⟩
  cases p with
  | nx s1 h1 =>
    intro σ1 ρ1 H1 x1 r1 sr1
    have q : okR _ _ (g s1 h1) := q
    exact ⟨Fr, ρ1, s1, h1, r1, sr1, q.mono (fun f k => k.mono x1 r1) fun e h z => W.mono x1 r1 (hW _ _ _ _ _ _ _ z)⟩
  | rt _ _ => exact q
  | bk _ _ => exact q
  | ct _ _ => exact q
theorem ss_expr {e : Expr} {fe : Env' → Hq → R (D × Hq)} (he : SE X W e fe) (hs : swapsWith e none pos.line X.env = pure false) : SS X W (.Expr e pos) (fun s h => (fe s h).bind fun p => .ok (.nx s p.2)) := by
  refine PS.imp (ps_expr he hs) fun Z σ H ⟨Fr, ρ, s, h, r, sr, ok⟩ => ⟨Fr, ρ, s, h, r, sr, (okR_bind.mp ok).mono (fun p q v ρ1 H1 x1 r1 d1 => ?_) fun _ _ z => z⟩
  exact q σ ρ1 H1 x1 r1 (sr.mono x1)
theorem ss_ret {e : Expr} {fe : Env' → Hq → R (D × Hq)} (he : SE X W e fe) : SS X W (.Return (some e) pos) (fun s h => (fe s h).bind fun p => .ok (.rt p.1 p.2)) := by
  refine PS.imp (ps_ret he) fun Z σ H ⟨Fr, ρ, s, h, r, sr, ok⟩ => ⟨Fr, ρ, s, h, r, sr, (okR_bind.mp ok).mono (fun p q v ρ1 H1 x1 r1 d1 => ?_) fun _ _ z => z⟩
  exact q v ρ1 H1 x1 r1 d1
theorem ss_if {c : Expr} {a b : List Stmt} {ft : Env' → Hq → R (Bool × Hq)} {fa fb : Env' → Hq → R Fl} (hc : ST X W c ft) (ha : SB X W a fa) (hb : SB X W b fb) :
    SS X W (.If c a b pos) (fun s h => (ft s h).bind fun p => if p.1 then fa s p.2 else fb s p.2) := by
  refine PS.imp (ps_if hc ha hb) fun Z σ H ⟨Fr, ρ, s, h, r, sr, ok⟩ => ⟨Fr, ρ, s, h, r, sr, (okR_bind.mp ok).mono (fun p q ρ1 H1 x1 r1 => ?_) fun _ _ z => z⟩
  obtain ⟨b1, h1⟩ := p
  cases b1 with
  | true => exact ⟨Fr, ρ1, s, h1, r1, sr.mono x1, (show okR _ _ (fa s h1) from q).mono (fun f k => k.mono x1 r1) fun e h z => W.mono x1 r1 z⟩
  | false => exact ⟨Fr, ρ1, s, h1, r1, sr.mono x1, (show okR _ _ (fb s h1) from q).mono (fun f k => k.mono x1 r1) fun e h z => W.mono x1 r1 z⟩

/-! ### assignments -/
def asgF (c : Tg) (p : D × Hq) (s : Env') : R Fl := match asg c p.1 s with | some s' => .ok (.nx s' p.2) | none => .stuck
theorem asg_t {c : Tg} {fe : Env' → Hq → R (D × Hq)} {Z : Ends} {σ : L2.St} {H : Hp} (t : TSk X.K W (fun s h => (fe s h).bind fun p => asgF c p s) Z σ H) : tAsg (TEk X.K W fe) (TGk X.K c) Z σ H := by
  obtain ⟨Fr, ρ, s, h, r, sr, ok⟩ := t
  refine ⟨Fr, ρ, s, h, r, sr, (okR_bind.mp ok).mono (fun p q v ρ1 H1 x1 r1 d1 => ?_) fun _ _ z => z⟩
  unfold asgF at q
  cases e : asg c p.1 s with
  | none => rw [e] at q; exact q.elim
  | some s' =>
    rw [e] at q
    exact ⟨Fr, ρ1, p.2, s, p.1, s', r1, sr.mono x1, d1, e, fun σ' sr' _ => q σ' ρ1 H1 x1 r1 sr'⟩
theorem ss_asg {tg e : Expr} {c : Tg} {fe : Env' → Hq → R (D × Hq)} (he : SE X W e fe) (hg : SG X tg c) (hs : swapsWithSole [tg] e pos.line X.env = pure false) (hw : swappedStores [tg] e X.env = pure none)
    (h1 : (assignEach [tg] X.env).map (·.2) = [assign tg X.env]) : SS X W (.Assign [tg] e pos) (fun s h => (fe s h).bind fun p => asgF c p s) :=
  PS.imp (ps_asg he hg hs hw h1) fun _ _ _ t => asg_t t
theorem ss_setLc {i : Nat} {y : Str} {py : Pos} {elt tg iter : Expr} {ifs : List Expr} {scope : Scope} {own : List (Str × Nat)} {spos : Pos} {live : Bool} {c : Tg} {fi : Env' → Hq → R Its'} {ft : Env' → Hq → R (Bool × Hq)} {fe : Env' → Hq → R (D × Hq)}
    (hc : X.calm = true) (hN : X.N.Nodup) (hy : X.N[i]? = some y) (hyl : X.env.scope.names.lookup y = some .local)
    (hsw : swapsWith (.ListComp elt [⟨tg, iter, ifs, 0⟩] scope pos) (some (.Name y py)) spos.line X.env = pure true) (hi : SI X W tg iter fi) (ok : BlkOk X.N X.env.scope scope own)
    (hg : ∀ (s : Shared) (H : Hp) (C : Addr) (cl : List (Str × Addr)) (fp : List Addr), SG (X.blk s H scope (compEnvC scope cl C X.env) fp) tg c)
    (ht : ∀ (s : Shared) (H : Hp) (C : Addr) (cl : List (Str × Addr)) (fp : List Addr), STs (X.blk s H scope (compEnvC scope cl C X.env) fp) (EK.none X.K) ifs ft)
    (he : ∀ (s : Shared) (H : Hp) (C : Addr) (cl : List (Str × Addr)) (fp : List Addr), SE (X.blk s H scope (compEnvC scope cl C X.env) fp) (EK.none X.K) elt fe)
    (hs : ∀ x, foldedSetIterable iter X.env x = pure x) (hsl : ∀ i ∈ c.slots, i ∈ own.map (·.2)) :
    SS X W (.Assign [.Name y py] (.ListComp elt [⟨tg, iter, ifs, 0⟩] scope pos) spos) (fun s h => (compD live c (own.map (·.2)) fi ft fe s h).bind fun p => asgF (.name i) p s) := by
  refine PS.imp (ps_setLc (g := TGk X.K c) (tt := TTk X.K (EK.none X.K) ft) (te := TEk X.K (EK.none X.K) fe) hc hN hy hyl hsw hi ok hg ht he hs) fun Z σ H ⟨Fr, ρ, s, h, r, sr, ok⟩ => ?_
  refine comp_t (live := live) hsl ⟨Fr, ρ, s, h, r, sr, (okR_bind.mp ok).mono (fun p q v ρ1 H1 x1 r1 d1 => ?_) fun _ _ z => z⟩
  unfold asgF asg at q
  split at q
  · rename_i s' e
    split at e
    · cases e
      exact q _ ρ1 H1 x1 r1 ((sr.mono x1).set d1)
    · cases e
  · exact q.elim
def tupF (p : List D × Hq) : R (D × Hq) := lift (mkT p.1 p.2)
theorem mkT_some {ds : List D} {h : Hq} {p : D × Hq} (e : mkT ds h = some p) : p = (.tup ds, h) := by
  unfold mkT at e
  split at e
  · cases e; rfl
  · cases e
theorem ss_par {i j : Nat} {x y : Str} {a b : Expr} {px py pt : Pos} {kt k2 pt2} {fs : Env' → Hq → R (List D × Hq)} (hc : X.calm = true) (hN : X.N.Nodup) (hi : X.N[i]? = some x) (hj : X.N[j]? = some y) (hij : i ≠ j)
    (hx : X.env.scope.names.lookup x = some .local) (hy : X.env.scope.names.lookup y = some .local) (ha : SA X W [a, b] fs)
    (hw : swappedStores [.Tuple [.Name x px, .Name y py] kt pt] (.Tuple [a, b] k2 pt2) X.env = pure (some [x, y]))
    (hs : swapsWithSole [.Tuple [.Name x px, .Name y py] kt pt] (.Tuple [a, b] k2 pt2) pos.line X.env = pure false) :
    SS X W (.Assign [.Tuple [.Name x px, .Name y py] kt pt] (.Tuple [a, b] k2 pt2) pos) (fun s h => ((fs s h).bind tupF).bind fun p => asgF (.tup (.cons (.name i) (.cons (.name j) .nil))) p s) := by
  refine PS.imp (ps_par hc hN hi hj hij hx hy ha hw hs) fun Z σ H ⟨Fr, ρ, s, h, r, sr, ok⟩ => ⟨Fr, ρ, s, h, r, sr, (okR_bind.mp (okR_bind.mp ok)).mono (fun p q vs ρ1 H1 x1 r1 d1 => ?_) fun _ _ z => z⟩
  obtain ⟨p', e, k⟩ := okR_lift (show okR _ _ (lift (mkT p.1 p.2)) from q)
  have := mkT_some e
  subst this
  unfold asgF at k
  dsimp only at k
  cases e2 : asg (.tup (.cons (.name i) (.cons (.name j) .nil))) (.tup p.1) s with
  | none => rw [e2] at k; exact k.elim
  | some s' =>
    rw [e2] at k
    obtain ⟨ds, h1⟩ := p
    simp only [asg] at e2
    match ds, e2, d1 with
    | [], e2, _ => cases e2
    | [_], e2, _ => simp only [asgs, asg] at e2; split at e2 <;> simp at e2
    | _ :: _ :: _ :: _, e2, _ => simp only [asgs, asg] at e2; split at e2 <;> (try split at e2) <;> simp at e2
    | [d, d'], e2, d1 =>
      unfold RDs at d1
      obtain ⟨v, t, rfl, k1, d1⟩ := d1
      unfold RDs at d1
      obtain ⟨w, t, rfl, k2, d1⟩ := d1
      unfold RDs at d1
      subst d1
      refine ⟨v, w, rfl, ?_⟩
      simp only [asgs, asg] at e2
      split at e2
      · rename_i s2 e3
        split at e3
        · cases e3
          split at e2
          · rename_i s3 e4
            cases e2
            split at e4
            · cases e4
              exact k _ ρ1 H1 x1 r1 (((sr.mono x1).set k1).set k2)
            · cases e4
          · cases e2
        · cases e3
      · cases e2
/-- o[i] = e -/
theorem ss_setIx {o i e : Expr} {tpos : Pos} {fo fi fe : Env' → Hq → R (D × Hq)} (hset : PSet X (rSetD X.K)) (he : SE X W e fe) (ho : SE X (EK.none X.K) o fo) (hi : SE X (EK.none X.K) i fi) (hs : swapsWithSole [.Subscript o i tpos] e pos.line X.env = pure false) (hw : swappedStores [.Subscript o i tpos] e X.env = pure none)
    (h1 : (assignEach [.Subscript o i tpos] X.env).map (·.2) = [assign (.Subscript o i tpos) X.env])
    (ha : ∀ v, assign (.Subscript o i tpos) X.env v = (do
      let ov ← holding [v] (eval o X.env)
      let iv ← holding [v, ov] (eval i X.env)
      standAt tpos
      holding [v, ov, iv] (setItem ov iv v)
      release [v, ov, iv] [])) :
    SS X W (.Assign [.Subscript o i tpos] e pos) (fun s h => (fe s h).bind fun v => (hush (fo s v.2)).bind fun x => (hush (fi s x.2)).bind fun k => (lift (setD x.1 k.1 v.1 k.2)).bind fun h => .ok (.nx s h)) := by
  refine PS.imp (ps_asg he (pg_sub ho hi hset ha) hs hw h1) fun Z σ H ⟨Fr, ρ, s, h, r, sr, ok⟩ => ⟨Fr, ρ, s, h, r, sr, (okR_bind.mp ok).mono (fun p q v ρ1 H1 x1 r1 d1 => ?_) fun _ _ z => z⟩
  refine ⟨Fr, ρ1, s, p.2, r1, sr.mono x1, (okR_hush (E' := fun _ _ => False) (okR_bind.mp q)).mono (fun p2 q2 v2 ρ2 H2 x2 r2 d2 => ?_) fun _ _ z => z⟩
  refine ⟨Fr, ρ2, s, p2.2, r2, (sr.mono x1).mono x2, (okR_hush (E' := fun _ _ => False) (okR_bind.mp q2)).mono (fun p3 q3 v3 ρ3 H3 x3 r3 d3 => ?_) fun _ _ z => z⟩
  obtain ⟨h4, e4, k4⟩ := okR_lift (okR_bind.mp q3)
  have x13 := x2.step r2 x3
  exact ⟨Fr, ρ3, p3.2, p2.1, p3.1, p.1, r3, RD.mono x3 _ _ d2, d3, RD.mono x13 _ _ d1, h4, e4, fun ρ' H' x' r' => k4 σ ρ' H' (((x1.step r1 x13).step r3 x')) r' (((sr.mono x1).mono x13).mono x')⟩
end
end FF

/-! FFST2: loops. -/
namespace FF
open PySem PySem.Spec PyProof.Rows L2
section
variable {X : Cx} {W : EK X.K} {pos : Pos}
def stepF (c : Tg) (fb : Env' → Hq → R Fl) : D → Env' → Hq → R Fl := fun x s h => match asg c x s with | some s' => fb s' h | none => .stuck
theorem ss_for {tg iter : Expr} {body : List Stmt} {c : Tg} {fi : Env' → Hq → R Its'} {fb : Env' → Hq → R Fl} (hW : W.flat) (hp : PassesOwn (model X.prog X.w) X.A X.env X.xe) (hc : X.calm = true) (hi : SI X W tg iter fi) (hg : SG X tg c) (hb : SB X W body fb)
    (hs : ∀ x, foldedSetIterable iter X.env x = pure x) : SS X W (.For tg iter body [] pos) (fun s h => (fi s h).bind fun p => loopF p.2.1 (stepF c fb) p.1 s p.2.2) := by
  refine PS.imp (ps_for hp hc hi hg hb hs) fun Z σ H ⟨Fr, ρ, s, h, r, sr, ok⟩ => ?_
  refine ⟨Fr, ρ, s, h, r, sr, (okR_bind.mp ok).mono (fun p q J ρ1 H1 x1 r1 iw => ?_) fun _ _ z => z⟩
  obtain ⟨xs, w, h1⟩ := p
  dsimp only at q r1 iw
  refine ⟨fun i m σ' H' => m = xs.length - i ∧ i ≤ xs.length ∧ ∃ ρ' s' h', Ext ρ1 H1 ρ' H' ∧ HR X.K Fr ρ' h' H' ∧ SR X.K Fr ρ' H' s' σ' ∧ okR (KontS X.K Fr ρ H Z) (W.p Fr ρ H σ) (loopF w (stepF c fb) (xs.drop i) s' h'),
    ⟨_, rfl, Nat.zero_le _, ρ1, s, h1, .refl, r1, sr.mono x1, q⟩, ?_⟩
  rintro i m σ2 H2 ⟨rfl, hle, ρ2, s2, h2, x2, r2, sr2, o2⟩
  by_cases hlt : i < xs.length
  · have e0 : xs.drop i = xs[i] :: xs.drop (i + 1) := (List.drop_eq_getElem_cons hlt)
    rw [e0] at o2
    unfold loopF at o2
    cases st : stands h2 w with
    | false => rw [st] at o2; exact o2.elim
    | true =>
      rw [st, if_pos rfl] at o2
      obtain ⟨w1, _⟩ := iw Fr i ρ2 H2 h2 (fun a ha => .inl ha) x2 r2 st
      obtain ⟨go, yl⟩ := w1 xs[i] (List.getElem?_eq_getElem hlt)
      let Good : L2.St → Hp → Prop := fun σ' H' => ∃ ρ' s' h', Ext ρ1 H1 ρ' H' ∧ HR X.K Fr ρ' h' H' ∧ SR X.K Fr ρ' H' s' σ' ∧ okR (KontS X.K Fr ρ H Z) (W.p Fr ρ H σ) (loopF w (stepF c fb) (xs.drop (i + 1)) s' h')
      refine .inr ⟨go, Good, fun σ' H' g => ⟨xs.length - (i + 1), by omega, rfl, hlt, g⟩, fun x H3 hy => ?_⟩
      obtain ⟨x3, r3, d3, kp⟩ := yl x H3 hy
      have o3 := okR_bind.mp o2
      unfold stepF at o3
      cases es : asg c xs[i] s2 with
      | none => rw [es] at o3; exact o3.elim
      | some s' =>
        rw [es] at o3
        have x13 := x2.step r2 x3
        have x03 := x1.step r1 x13
        refine ⟨Fr, ρ2, h2, s2, xs[i], s', r3, sr2.mono x3, d3, es, fun σ' sr' _ => ?_⟩
        refine ⟨Fr, ρ2, s', h2, r3, sr', (show okR _ _ (fb s' h2) from o3).mono (fun f k => ?_) fun e h z => W.mono x03 r3 (hW _ _ _ _ _ _ _ z)⟩
        cases f with
        | nx s4 h4 => exact fun σ4 ρ4 H4 x4 r4 sr4 => ⟨ρ4, s4, h4, x13.step r3 x4, r4, sr4, k⟩
        | ct s4 h4 => exact fun σ4 ρ4 H4 x4 r4 sr4 => ⟨ρ4, s4, h4, x13.step r3 x4, r4, sr4, k⟩
        | bk s4 h4 => exact fun σ4 ρ4 H4 x4 r4 sr4 => (show KontS X.K Fr ρ H Z (.nx s4 h4) from k) σ4 ρ4 H4 (x03.step r3 x4) r4 sr4
        | rt d h4 => exact fun v ρ4 H4 x4 r4 d4 => (show KontS X.K Fr ρ H Z (.rt d h4) from k) v ρ4 H4 (x03.step r3 x4) r4 d4
  · have hi' : i = xs.length := by omega
    subst hi'
    rw [List.drop_length] at o2
    unfold loopF at o2
    cases st : stands h2 w with
    | false => rw [st] at o2; exact o2.elim
    | true =>
      rw [st, if_pos rfl] at o2
      obtain ⟨_, w2⟩ := iw Fr _ ρ2 H2 h2 (fun a ha => .inl ha) x2 r2 st
      exact .inl ⟨w2 rfl, (show KontS X.K Fr ρ H Z (.nx s2 h2) from o2) σ2 ρ2 H2 (x1.step r1 x2) r2 sr2⟩
theorem ss_while {t : Expr} {body : List Stmt} {ft : Env' → Hq → R (Bool × Hq)} {fb : Env' → Hq → R Fl} (n : Nat) (hW : W.flat) (hp : PassesOwn (model X.prog X.w) X.A X.env X.xe) (hc : ST X W t ft) (hb : SB X W body fb) :
    SS X W (.While t body [] pos) (fun s h => loopW ft fb n s h) := by
  refine PS.imp (ps_while hp hc hb) fun Z σ H ⟨Fr, ρ, s, h, r, sr, ok⟩ => ?_
  refine ⟨fun m σ' H' => ∃ ρ' s' h', Ext ρ H ρ' H' ∧ HR X.K Fr ρ' h' H' ∧ SR X.K Fr ρ' H' s' σ' ∧ okR (KontS X.K Fr ρ H Z) (W.p Fr ρ H σ) (loopW ft fb m s' h'), ⟨n, ρ, s, h, .refl, r, sr, ok⟩, ?_⟩
  rintro m σ2 H2 ⟨ρ2, s2, h2, x2, r2, sr2, o2⟩
  cases m with
  | zero => unfold loopW at o2; exact o2.elim
  | succ m =>
    unfold loopW at o2
    refine ⟨Fr, ρ2, s2, h2, r2, sr2, (okR_bind.mp o2).mono (fun p q ρ3 H3 x3 r3 => ?_) fun e h z => W.mono x2 r2 (hW _ _ _ _ _ _ _ z)⟩
    obtain ⟨b, h3⟩ := p
    have x03 := x2.step r2 x3
    cases b with
    | false => exact (show KontS X.K Fr ρ H Z (.nx s2 h3) from q) σ2 ρ3 H3 x03 r3 (sr2.mono x3)
    | true =>
      rw [if_pos rfl]
      let Good : L2.St → Hp → Prop := fun σ' H' => ∃ ρ' s' h', Ext ρ H ρ' H' ∧ HR X.K Fr ρ' h' H' ∧ SR X.K Fr ρ' H' s' σ' ∧ okR (KontS X.K Fr ρ H Z) (W.p Fr ρ H σ) (loopW ft fb m s' h')
      refine ⟨Good, fun σ' H' g => ⟨m, Nat.lt_succ_self m, g⟩, ?_⟩
      have q : okR _ _ ((fb s2 h3).bind _) := q
      refine ⟨Fr, ρ3, s2, h3, r3, sr2.mono x3, (okR_bind.mp q).mono (fun f k => ?_) fun e h z => W.mono x03 r3 (hW _ _ _ _ _ _ _ z)⟩
      cases f with
      | nx s4 h4 => exact fun σ4 ρ4 H4 x4 r4 sr4 => ⟨ρ4, s4, h4, x03.step r3 x4, r4, sr4, k⟩
      | ct s4 h4 => exact fun σ4 ρ4 H4 x4 r4 sr4 => ⟨ρ4, s4, h4, x03.step r3 x4, r4, sr4, k⟩
      | bk s4 h4 => exact fun σ4 ρ4 H4 x4 r4 sr4 => (show KontS X.K Fr ρ H Z (.nx s4 h4) from k) σ4 ρ4 H4 (x03.step r3 x4) r4 sr4
      | rt d h4 => exact fun v ρ4 H4 x4 r4 d4 => (show KontS X.K Fr ρ H Z (.rt d h4) from k) v ρ4 H4 (x03.step r3 x4) r4 d4
end
end FF

/-! FFFn: calls: how cells of a callee are taken away. -/
namespace FF
open PySem PySem.Spec PyProof.Rows L2
section
variable {K : PySem.W.Frag} {Fr ρ ρ' : List Addr} {H H' : Hp} {h h' : Hq}
/-- ρ' is ρ and more, all different -/
structure Pre (Fr ρ ρ' : List Addr) (n : Nat) : Prop where
  more : ∃ m, ρ' = ρ ++ m
  len : ρ.length = n
  nd : ρ'.Nodup
  dj : ∀ a ∈ ρ', a ∉ Fr
theorem Pre.out {n : Nat} (p : Pre Fr ρ ρ' n) {a : Addr} (z : a ∉ ρ') : a ∉ ρ := fun y => by
  obtain ⟨m, e⟩ := p.more
  exact z (by rw [e]; exact List.mem_append_left _ y)
theorem Pre.lo {n k : Nat} (p : Pre Fr ρ ρ' n) {a : Addr} (e : ρ'[k]? = some a) (hk : k < n) : ρ[k]? = some a := by
  obtain ⟨m, rfl⟩ := p.more
  rw [List.getElem?_append_left (by rw [p.len]; exact hk)] at e
  exact e
theorem Pre.hi {n k : Nat} (p : Pre Fr ρ ρ' n) {a : Addr} (e : ρ'[k]? = some a) (hk : ¬ k < n) : a ∉ ρ := by
  obtain ⟨m, rfl⟩ := p.more
  rw [List.getElem?_append_right (by rw [p.len]; omega)] at e
  intro z
  exact (List.nodup_append.mp p.nd).2.2 a z a (List.mem_of_getElem? e) rfl
mutual
theorem RD.under {n : Nat} (p : Pre Fr ρ ρ' n) : ∀ (d : D) (v : V), D.under n d = true → RD K Fr ρ' H d v → RD K Fr ρ H d v
  | .non, _, _, r => r
  | .bl _, _, _, r => r
  | .int _, _, _, r => r
  | .str _, _, _, r => r
  | .tup ds, _, u, r => by
    unfold RD at r ⊢
    unfold D.under at u
    obtain ⟨a, vs, e, k, n, q⟩ := r
    exact ⟨a, vs, e, k, p.out n, RDs.under p ds vs u q⟩
  | .lst ds, _, u, r => by
    unfold RD at r ⊢
    unfold D.under at u
    obtain ⟨a, vs, e, k, n, nf, q⟩ := r
    exact ⟨a, vs, e, k, p.out n, nf, RDs.under p ds vs u q⟩
  | .scr ns, _, _, r => by
    unfold RD at r ⊢
    obtain ⟨a, e, k⟩ := r
    exact ⟨a, e, k.imp (fun k => ⟨⟨k.1.1, p.out k.1.2⟩, k.2⟩) id⟩
  | .ktp ns, _, _, r => by
    unfold RD at r ⊢
    obtain ⟨a, e, k⟩ := r
    exact ⟨a, e, k.imp (fun k => ⟨k.1, p.out k.2⟩) id⟩
  | .kpp ns, _, _, r => by
    unfold RD at r ⊢
    obtain ⟨a, e, o, qs, k, d, n, q⟩ := r
    exact ⟨a, e, o, qs, k, d, p.out n, paired_imp q fun _ _ y => ⟨y.1, p.out y.2⟩⟩
  | .ref n, _, u, r => by
    unfold RD at r ⊢
    unfold D.under at u
    obtain ⟨a, e, k⟩ := r
    exact ⟨a, e, p.lo k (of_decide_eq_true u)⟩
  | .dct _, _, _, r => by
    unfold RD at r ⊢
    obtain ⟨kvs, e, a, ev, k, n, nf⟩ := r
    exact ⟨kvs, e, a, ev, k, p.out n, nf⟩
  | .opq _, _, _, r => by
    unfold RD at r ⊢
    obtain ⟨a, e, n, nf, k⟩ := r
    exact ⟨a, e, p.out n, nf, k⟩
  | .exn c ds, _, u, r => by
    unfold RD at r ⊢
    unfold D.under at u
    obtain ⟨vs, k, q⟩ := r
    exact ⟨vs, k.go fun b o n nf e t => ⟨e, p.out n, nf⟩, RDs.under p ds vs u q⟩
theorem RDs.under {n : Nat} (p : Pre Fr ρ ρ' n) : ∀ (ds : List D) (vs : List V), D.unders n ds = true → RDs K Fr ρ' H ds vs → RDs K Fr ρ H ds vs
  | [], _, _, r => r
  | d :: ds, _, u, r => by
    unfold RDs at r ⊢
    unfold D.unders at u
    rw [Bool.and_eq_true] at u
    obtain ⟨v, t, e, k, q⟩ := r
    exact ⟨v, t, e, RD.under p d v u.1 k, RDs.under p ds t u.2 q⟩
end
def Thaws (K : PySem.W.Frag) (Fr ρ ρ' : List Addr) (H : Hp) (g : List D → Option (List D)) : Prop := ∀ ds ds' vs, g ds = some ds' → RDs K Fr ρ' H ds vs → RDs K Fr ρ H ds' vs
theorem map_some' {α β : Type} {f : α → β} {o : Option α} {b : β} (h : o.map f = some b) : ∃ a, o = some a ∧ f a = b := by
  cases o with
  | none => cases h
  | some a => exact ⟨a, rfl, Option.some.inj h⟩
mutual
theorem RD.thaw {n : Nat} (p : Pre Fr ρ ρ' n) (r0 : HR K Fr ρ' h H) {g : List D → Option (List D)} (hg : Thaws K Fr ρ ρ' H g) : ∀ (d d' : D) (v : V), D.thaw n g h d = some d' → RD K Fr ρ' H d v → RD K Fr ρ H d' v
  | .non, _, _, e, r => by unfold D.thaw at e; cases e; exact r
  | .bl _, _, _, e, r => by unfold D.thaw at e; cases e; exact r
  | .int _, _, _, e, r => by unfold D.thaw at e; cases e; exact r
  | .str _, _, _, e, r => by unfold D.thaw at e; cases e; exact r
  | .ktp ns, _, _, e, r => by unfold D.thaw at e; cases e; exact RD.under p (.ktp ns) _ (by unfold D.under; rfl) r
  | .kpp ns, _, _, e, r => by unfold D.thaw at e; cases e; exact RD.under p (.kpp ns) _ (by unfold D.under; rfl) r
  | .scr ns, _, _, e, r => by unfold D.thaw at e; cases e; exact RD.under p (.scr ns) _ (by unfold D.under; rfl) r
  | .tup ds, _, _, e, r => by
    unfold D.thaw at e
    obtain ⟨ds', e1, rfl⟩ := map_some' e
    unfold RD at r ⊢
    obtain ⟨a, vs, e, k, n, q⟩ := r
    exact ⟨a, vs, e, k, p.out n, RDs.thaw p r0 hg ds ds' vs e1 q⟩
  | .lst ds, _, _, e, r => by
    unfold D.thaw at e
    obtain ⟨ds', e1, rfl⟩ := map_some' e
    unfold RD at r ⊢
    obtain ⟨a, vs, e, k, n, nf, q⟩ := r
    exact ⟨a, vs, e, k, p.out n, nf, RDs.thaw p r0 hg ds ds' vs e1 q⟩
  | .dct ds, _, _, e, r => by
    unfold D.thaw at e
    obtain ⟨ds', e1, rfl⟩ := map_some' e
    unfold RD at r ⊢
    obtain ⟨kvs, e0, a, ev, k, n, nf⟩ := r
    refine ⟨kvs, ?_, a, ev, k, p.out n, nf⟩
    rcases e0 with ⟨rfl, rfl⟩ | ⟨i, j, rfl, rfl⟩
    · unfold D.thaws at e1
      exact .inl ⟨(Option.some.inj e1).symm, rfl⟩
    · simp [D.thaws, D.thaw] at e1
      exact .inr ⟨i, j, e1.symm, rfl⟩
  | .opq _, _, _, e, r => by
    unfold D.thaw at e
    cases e
    unfold RD at r ⊢
    obtain ⟨a, e, n, nf, k⟩ := r
    exact ⟨a, e, p.out n, nf, k⟩
  | .exn c ds, _, _, e, r => by
    unfold D.thaw at e
    obtain ⟨ds', e1, rfl⟩ := map_some' e
    unfold RD at r ⊢
    obtain ⟨vs, k, q⟩ := r
    exact ⟨vs, k.go fun b o n nf e t => ⟨e, p.out n, nf⟩, RDs.thaw p r0 hg ds ds' vs e1 q⟩
  | .ref k, _, v, e, r => by
    unfold D.thaw at e
    split at e
    · rename_i hk
      cases e
      exact RD.under p (.ref k) v (by unfold D.under; exact decide_eq_true hk) r
    · rename_i hk
      split at e
      · rename_i ds hds
        obtain ⟨ds', e1, rfl⟩ := map_some' e
        obtain ⟨a, vs, rfl, e2, e3, q⟩ := r0.lst r hds
        unfold RD
        exact ⟨a, vs, rfl, e3, p.hi e2 hk, p.dj a (List.mem_of_getElem? e2), hg ds ds' vs e1 q⟩
      · cases e
theorem RDs.thaw {n : Nat} (p : Pre Fr ρ ρ' n) (r0 : HR K Fr ρ' h H) {g : List D → Option (List D)} (hg : Thaws K Fr ρ ρ' H g) : ∀ (ds ds' : List D) (vs : List V), D.thaws n g h ds = some ds' → RDs K Fr ρ' H ds vs → RDs K Fr ρ H ds' vs
  | [], _, _, e, r => by unfold D.thaws at e; cases e; exact r
  | d :: ds, _, _, e, r => by
    unfold D.thaws at e
    split at e
    · rename_i a b e1 e2
      cases e
      unfold RDs at r ⊢
      obtain ⟨v, t, e, k, q⟩ := r
      exact ⟨v, t, e, RD.thaw p r0 hg d a v e1 k, RDs.thaw p r0 hg ds b t e2 q⟩
    · cases e
end
theorem thawN_ok {n : Nat} (p : Pre Fr ρ ρ' n) (r0 : HR K Fr ρ' h H) : ∀ k, Thaws K Fr ρ ρ' H (thawN n h k)
  | 0 => fun ds ds' vs e r => by
    unfold thawN at e
    split at e
    · rename_i u; cases e; exact RDs.under p _ _ u r
    · cases e
  | k + 1 => fun ds ds' vs e r => RDs.thaw p r0 (thawN_ok p r0 k) ds ds' vs e r
theorem RD.thaw1 {n : Nat} (p : Pre Fr ρ ρ' n) (r0 : HR K Fr ρ' h H) {d y : D} {v : V} (e : FF.thaw1 n h d = some y) (r : RD K Fr ρ' H d v) : RD K Fr ρ H y v := by
  unfold FF.thaw1 at e
  split at e
  · rename_i x hx
    cases e
    have q := thawN_ok p r0 3 [d] [y] [v] hx (.cons r .nil)
    unfold RDs at q
    obtain ⟨v', t, e, k, q⟩ := q
    cases e
    exact k
  · cases e
theorem pre_of (r : HR K Fr ρ h H) (x : Ext ρ H ρ' H') (r' : HR K Fr ρ' h' H') : Pre Fr ρ ρ' h.length := ⟨let ⟨m, e, _⟩ := x.more; ⟨m, e⟩, r.len, r'.nd, r'.dj⟩
theorem Ext.flat (x : Ext ρ H ρ' H') : Ext ρ H ρ H' := ⟨⟨[], by simp, by simp⟩, fun a o n e t => x.keep a o n e t⟩
/-- the cells of ahead, as they came to be -/
theorem HR.cut (r : HR K Fr ρ h H) (x : Ext ρ H ρ' H') (r' : HR K Fr ρ' h' H') (u : (h'.take h.length).all (Ob.under h.length) = true) : HR K Fr ρ (h'.take h.length) H' := by
  have p := pre_of r x r'
  obtain ⟨m, e⟩ := p.more
  refine ⟨?_, r.nd, r'.fr', r'.tb, fun a ha => r'.dj a (by rw [e]; exact List.mem_append_left _ ha), fun n o ho => ?_⟩
  · rw [List.length_take, ← r'.len, e, List.length_append, r.len]; omega
  · have hn : n < h.length := by
      have := (List.getElem?_eq_some_iff.mp ho).1
      rw [List.length_take] at this; omega
    rw [List.getElem?_take_of_lt hn] at ho
    obtain ⟨a, ea, q⟩ := r'.at' n o ho
    refine ⟨a, p.lo ea hn, ?_⟩
    have hu : Ob.under h.length o = true := by
      rw [List.all_eq_true] at u
      exact u o (List.mem_of_getElem? (by rw [List.getElem?_take_of_lt hn]; exact ho))
    have kr : ∀ {κ : Type} {kvs : List (κ × D)}, (kvs.all fun p => p.2.under h.length) = true → D.unders h.length (kvs.map (·.2)) = true := by
      intro κ kvs
      induction kvs with
      | nil => intro _; rfl
      | cons a t ih =>
        intro h
        rw [List.all_cons, Bool.and_eq_true] at h
        show (D.under _ a.2 && D.unders _ (t.map (·.2))) = true
        rw [h.1, ih h.2]; rfl
    cases o with
    | lst ds =>
      obtain ⟨vs, e1, q⟩ := q
      exact ⟨vs, e1, RDs.under p _ _ hu q⟩
    | dct kvs =>
      obtain ⟨vs, e1, q1, q2⟩ := q
      exact ⟨vs, e1, q1, RDs.under p _ _ (kr hu) q2⟩
    | dctT kvs =>
      obtain ⟨vs, e1, q1, q2⟩ := q
      exact ⟨vs, e1, q1, RDs.under p _ _ (kr hu) q2⟩
    | dctN kvs =>
      obtain ⟨vs, e1, q1, q2, q3⟩ := q
      have hn1 : ∀ kvs : List (D × D), (kvs.all fun p => p.1.under h.length && p.2.under h.length) = true → D.unders h.length (kvs.map (·.1)) = true ∧ D.unders h.length (kvs.map (·.2)) = true := by
        intro kvs
        induction kvs with
        | nil => intro _; exact ⟨rfl, rfl⟩
        | cons a t ih =>
          intro z
          rw [List.all_cons, Bool.and_eq_true, Bool.and_eq_true] at z
          obtain ⟨i1, i2⟩ := ih z.2
          refine ⟨?_, ?_⟩
          · show (D.under _ a.1 && D.unders _ (t.map (·.1))) = true
            rw [z.1.1, i1]; rfl
          · show (D.under _ a.2 && D.unders _ (t.map (·.2))) = true
            rw [z.1.2, i2]; rfl
      exact ⟨vs, e1, q1, RDs.under p _ _ (hn1 kvs hu).1 q2, RDs.under p _ _ (hn1 kvs hu).2 q3⟩
    | ins _ _ => exact q.elim
    | dead => exact q.elim
/-! ### a callee with cells of its own alone -/
theorem no_ref {n : Nat} {v : V} (r : RD K Fr [] H (.ref n) v) : False := by
  unfold RD at r
  obtain ⟨a, _, e⟩ := r
  simp at e
theorem notin_cells (r0 : HR K Fr ρ h H) {a : Addr} {u : HO} (k : H a = some u) (hu : isCl u = false) (hx : ∀ xs, u ≠ NDict a xs) : a ∉ ρ := fun z => by
  obtain ⟨v, e, c⟩ := r0.cl z
  rw [k] at e
  cases e
  rcases c with c | ⟨xs, c⟩
  · rw [hu] at c; cases c
  · exact hx xs c
mutual
theorem RD.deep (r0 : HR K Fr ρ h H) : ∀ (d : D) (v : V), RD K (ρ ++ Fr) [] H d v → RD K Fr ρ H d v
  | .non, _, r => r
  | .bl _, _, r => r
  | .int _, _, r => r
  | .str _, _, r => r
  | .tup ds, _, r => by
    unfold RD at r ⊢
    obtain ⟨a, vs, e, k, n, q⟩ := r
    refine ⟨a, vs, e, k, fun z => ?_, RDs.deep r0 ds vs q⟩
    obtain ⟨n, hn, e2⟩ := List.getElem_of_mem z
    have hl : n < h.length := by rw [← r0.len]; exact hn
    obtain ⟨b, e3, o⟩ := r0.at' n h[n] (List.getElem?_eq_getElem hl)
    rw [List.getElem?_eq_getElem hn, e2] at e3
    cases e3
    generalize h[n] = o' at o
    cases o' with
    | lst ds => obtain ⟨vs, e, _⟩ := o; rw [k] at e; cases e
    | dct ds => obtain ⟨vs, e, _⟩ := o; rw [k] at e; cases e
    | dctT ds => obtain ⟨vs, e, _⟩ := o; rw [k] at e; cases e
    | dctN ds => obtain ⟨vs, e, _⟩ := o; rw [k] at e; cases e
    | ins _ _ => exact o.elim
    | dead => exact o.elim
  | .lst ds, _, r => by
    unfold RD at r ⊢
    obtain ⟨a, vs, e, k, n, nf, q⟩ := r
    rw [List.mem_append, not_or] at nf
    exact ⟨a, vs, e, k, nf.1, nf.2, RDs.deep r0 ds vs q⟩
  | .scr ns, _, r => by
    unfold RD at r ⊢
    obtain ⟨a, e, k⟩ := r
    refine ⟨a, e, k.imp (fun k => ?_) id⟩
    have nf := k.2
    rw [List.mem_append, not_or] at nf
    exact ⟨⟨k.1.1, nf.1⟩, nf.2⟩
  | .ktp ns, _, r => by
    unfold RD at r ⊢
    obtain ⟨a, e, k⟩ := r
    refine ⟨a, e, k.imp (fun k => ⟨k.1, fun z => ?_⟩) id⟩
    obtain ⟨o1, k1, _⟩ := k.1
    obtain ⟨n, hn, e2⟩ := List.getElem_of_mem z
    have hl : n < h.length := by rw [← r0.len]; exact hn
    obtain ⟨b, e3, o⟩ := r0.at' n h[n] (List.getElem?_eq_getElem hl)
    rw [List.getElem?_eq_getElem hn, e2] at e3
    cases e3
    generalize h[n] = o' at o
    cases o' with
    | lst ds => obtain ⟨vs, e, _⟩ := o; rw [k1] at e; cases e
    | dct ds => obtain ⟨vs, e, _⟩ := o; rw [k1] at e; cases e
    | dctT ds => obtain ⟨vs, e, _⟩ := o; rw [k1] at e; cases e
    | dctN ds => obtain ⟨vs, e, _⟩ := o; rw [k1] at e; cases e
    | ins _ _ => exact o.elim
    | dead => exact o.elim
  | .kpp ns, _, r => by
    unfold RD at r ⊢
    obtain ⟨a, e, o, qs, k, d, n, q⟩ := r
    exact ⟨a, e, o, qs, k, d, notin_cells r0 k rfl (fun xs z => by unfold NDict at z; cases z), paired_imp q fun _ _ y => ⟨y.1, notin_cells r0 y.1 rfl (fun xs z => by unfold NDict at z; cases z)⟩⟩
  | .ref n, _, r => (no_ref r).elim
  | .dct _, _, r => by
    unfold RD at r ⊢
    obtain ⟨kvs, e, a, ev, k, n, nf⟩ := r
    rw [List.mem_append, not_or] at nf
    exact ⟨kvs, e, a, ev, k, nf.1, nf.2⟩
  | .opq _, _, r => by
    unfold RD at r ⊢
    obtain ⟨a, e, n, nf, k⟩ := r
    rw [List.mem_append, not_or] at nf
    exact ⟨a, e, nf.1, nf.2, k⟩
  | .exn c ds, _, r => by
    unfold RD at r ⊢
    obtain ⟨vs, k, q⟩ := r
    refine ⟨vs, k.go fun b o n nf e t => ?_, RDs.deep r0 ds vs q⟩
    rw [List.mem_append, not_or] at nf
    exact ⟨e, nf.1, nf.2⟩
theorem RDs.deep (r0 : HR K Fr ρ h H) : ∀ (ds : List D) (vs : List V), RDs K (ρ ++ Fr) [] H ds vs → RDs K Fr ρ H ds vs
  | [], _, r => r
  | d :: ds, _, r => by
    unfold RDs at r ⊢
    obtain ⟨v, t, e, k, q⟩ := r
    exact ⟨v, t, e, RD.deep r0 d v k, RDs.deep r0 ds t q⟩
end
mutual
theorem RD.aloof : ∀ (d : D) (v : V), D.pure d = true → RD K Fr ρ H d v → RD K (ρ ++ Fr) [] H d v
  | .non, _, _, r => r
  | .bl _, _, _, r => r
  | .int _, _, _, r => r
  | .str _, _, _, r => r
  | .tup ds, _, u, r => by
    unfold RD at r ⊢
    unfold D.pure at u
    obtain ⟨a, vs, e, k, n, q⟩ := r
    exact ⟨a, vs, e, k, List.not_mem_nil, RDs.aloof ds vs u q⟩
  | .lst ds, _, u, r => by
    unfold RD at r ⊢
    unfold D.pure at u
    obtain ⟨a, vs, e, k, n, nf, q⟩ := r
    exact ⟨a, vs, e, k, List.not_mem_nil, by rw [List.mem_append, not_or]; exact ⟨n, nf⟩, RDs.aloof ds vs u q⟩
  | .scr ns, _, _, r => by
    unfold RD at r ⊢
    obtain ⟨a, e, k⟩ := r
    exact ⟨a, e, k.imp (fun k => ⟨⟨k.1.1, List.not_mem_nil⟩, by rw [List.mem_append, not_or]; exact ⟨k.1.2, k.2⟩⟩) id⟩
  | .ktp ns, _, _, r => by
    unfold RD at r ⊢
    obtain ⟨a, e, k⟩ := r
    exact ⟨a, e, k.imp (fun k => ⟨k.1, List.not_mem_nil⟩) id⟩
  | .kpp ns, _, _, r => by
    unfold RD at r ⊢
    obtain ⟨a, e, o, qs, k, d, n, q⟩ := r
    exact ⟨a, e, o, qs, k, d, List.not_mem_nil, paired_imp q fun _ _ y => ⟨y.1, List.not_mem_nil⟩⟩
  | .ref n, _, u, r => by unfold D.pure at u; cases u
  | .dct _, _, _, r => by
    unfold RD at r ⊢
    obtain ⟨kvs, e, a, ev, k, n, nf⟩ := r
    exact ⟨kvs, e, a, ev, k, List.not_mem_nil, by rw [List.mem_append, not_or]; exact ⟨n, nf⟩⟩
  | .opq _, _, _, r => by
    unfold RD at r ⊢
    obtain ⟨a, e, n, nf, k⟩ := r
    exact ⟨a, e, List.not_mem_nil, by rw [List.mem_append, not_or]; exact ⟨n, nf⟩, k⟩
  | .exn c ds, _, u, r => by
    unfold RD at r ⊢
    unfold D.pure at u
    obtain ⟨vs, k, q⟩ := r
    exact ⟨vs, k.go fun b o n nf e t => ⟨e, List.not_mem_nil, by rw [List.mem_append, not_or]; exact ⟨n, nf⟩⟩, RDs.aloof ds vs u q⟩
theorem RDs.aloof : ∀ (ds : List D) (vs : List V), D.pures ds = true → RDs K Fr ρ H ds vs → RDs K (ρ ++ Fr) [] H ds vs
  | [], _, _, r => r
  | d :: ds, _, u, r => by
    unfold RDs at r ⊢
    unfold D.pures at u
    rw [Bool.and_eq_true] at u
    obtain ⟨v, t, e, k, q⟩ := r
    exact ⟨v, t, e, RD.aloof d v u.1 k, RDs.aloof ds t u.2 q⟩
end
theorem HR.alone (r : HR K Fr ρ h H) : HR K (ρ ++ Fr) [] [] H :=
  ⟨rfl, .nil, fun a ha => (List.mem_append.mp ha).elim (fun z => let ⟨u, e, c⟩ := r.cl z; ⟨u, e, isCl_tb c⟩) (r.fr' a), r.tb, fun a ha => absurd ha List.not_mem_nil, fun n o e => by simp at e⟩
theorem Ext.alone (ρ : List Addr) (x : Ext [] H ρ' H') : Ext ρ H ρ H' := ⟨⟨[], by simp, by simp⟩, fun a o _ e t => x.keep a o List.not_mem_nil e t⟩
theorem HR.later (r : HR K Fr ρ h H) (x : Ext [] H ρ' H') (htb : ∀ P q, LamTab K P q → LamX.TabS H' P q) : HR K Fr ρ h H' := by
  refine ⟨r.len, r.nd, fun a ha => ?_, htb, r.dj, fun n o e => ?_⟩
  · obtain ⟨u, e, t⟩ := r.fr' a ha; exact ⟨u, x.keep a u List.not_mem_nil e t, t⟩
  · obtain ⟨a, e1, q⟩ := r.at' n o e
    refine ⟨a, e1, OR.mono (x.alone ρ) ?_ q⟩
    obtain ⟨u, e2, c⟩ := q.cl
    rw [e2]
    exact x.keep a u List.not_mem_nil e2 (isCl_tb c)
/-! ### what a def promises -/
def spF (K : PySem.W.Frag) (f : List D → Hq → R (D × Hq)) : List V → Hp → VK → Prop := fun vs H Q => ∃ Fr ρ h ds, HR K Fr ρ h H ∧ RDs K Fr ρ H ds vs ∧ okR (Kont K Fr ρ H Q) (fun _ _ => False) (f ds h)
theorem RDs.start {N : List Str} {np : Nat} {ds : List D} {vs : List V} (hn : ds.length = np) (r : RDs K Fr ρ H ds vs) : SR K Fr ρ H (ds.map some ++ List.replicate (N.length - np) none) (L2.start N vs) := by
  unfold L2.start
  have hl := r.length
  refine ⟨by simp [hl, ← hn], fun i d e => ?_⟩
  have hi : i < ds.length := by
    by_cases hi : i < ds.length
    · exact hi
    · rw [List.getElem?_append_right (by simpa using hi), List.getElem?_replicate] at e
      split at e <;> cases e
  rw [List.getElem?_append_left (by simpa using hi), List.getElem?_map] at e
  cases e1 : ds[i]? with
  | none => rw [e1] at e; cases e
  | some d' =>
    rw [e1] at e; cases e
    obtain ⟨v, e2, k⟩ := r.get e1
    exact ⟨v, by rw [List.getElem?_append_left (by rw [List.length_map, ← hl]; exact hi), List.getElem?_map, e2]; rfl, k⟩
/-- how a body's end is taken -/
theorem ends_ok {Q : VK} {E : D → Hq → Prop} {r : R Fl} (h : okR (Kont K Fr ρ H Q) E (r.bind endOf)) : okR (KontS K Fr ρ H { nx := fun _ H' => Q .non H', rt := Q }) E r := by
  refine (okR_bind.mp h).mono (fun f k => ?_) fun _ _ z => z
  cases f with
  | nx s h => exact fun σ' ρ' H' x r sr => (show Kont K Fr ρ H Q (.non, h) from k) .non ρ' H' x r (by unfold RD; rfl)
  | rt d h => exact k
  | bk _ _ => exact (show False from k).elim
  | ct _ _ => exact (show False from k).elim
theorem okR_onExc {P : D × Hq → Prop} {E : D → Hq → Prop} {h0 : Hq} {r : R (D × Hq)} (h : okR P E (onExc h0 r)) : okR P (fun e _ => e.pure = true ∧ E e h0) r := by
  cases r with
  | ok a => exact h
  | exc e q =>
    unfold onExc at h
    dsimp only at h
    split at h
    · rename_i c; exact ⟨c, h⟩
    · exact h.elim
  | stuck => exact h
/-- from a def's promise to what its body must do -/
theorem body_ok {φ : Fn} {d : Def} {vs : List V} {Q : VK} (sp : spF K (runDef φ d) vs H Q) {N : List Str} (hN : d.names.length = N.length) (hp : d.nps ≤ N.length) :
    vs.length = d.nps ∧ TSk K (EK.none K) (exB φ d.body) { nx := fun _ H' => Q .non H', rt := Q } (L2.start N vs) H := by
  obtain ⟨Fr, ρ, h, ds, r, ra, ok⟩ := sp
  unfold runDef at ok
  split at ok
  · exact ok.elim
  · rename_i hl
    have hl : ds.length = d.nps := Decidable.not_not.mp hl
    refine ⟨by rw [← ra.length]; exact hl, ?_⟩
    have st : ∀ {Fr ρ}, RDs K Fr ρ H ds vs → SR K Fr ρ H (ds.map some ++ List.replicate (d.names.length - d.nps) none) (L2.start N vs) := fun ra => by rw [hN]; exact RDs.start hl ra
    dsimp only at ok
    split at ok
    · exact ⟨Fr, ρ, _, h, r, st ra, ends_ok ok⟩
    · refine ⟨Fr, ρ, _, h, r, st ra, ends_ok ((okR_bind.mp ok).mono (fun p q v ρ' H' x r' d' => ?_) fun _ _ z => z)⟩
      obtain ⟨y, h'⟩ := p
      dsimp only at q r' d'
      cases e : thaw1 h.length h' y with
      | none => rw [e] at q; exact q.elim
      | some z =>
        rw [e] at q
        dsimp only at q
        split at q
        · rename_i u
          exact (show Kont K Fr ρ H Q (z, h'.take h.length) from q) v ρ H' x.flat (r.cut x r' u) (RD.thaw1 (pre_of r x r') r' e d')
        · exact q.elim
    · split at ok
      · rename_i hpu
        have ok := okR_onExc ok
        refine ⟨ρ ++ Fr, [], _, [], r.alone, st (RDs.aloof ds vs hpu ra), ends_ok ((okR_bind.mp ok).mono (fun p q v ρ' H' x r' d' => ?_) fun _ _ z => z.2)⟩
        obtain ⟨y, h'⟩ := p
        dsimp only at q r' d'
        cases e : thaw1 0 h' y with
        | none => rw [e] at q; exact q.elim
        | some z =>
          rw [e] at q
          have rl := r.later x r'.tb
          exact (show Kont K Fr ρ H Q (z, h) from q) v ρ H' (x.alone ρ) rl (RD.deep rl z v (RD.thaw1 (pre_of r.alone x r') r' e d'))
      · exact ok.elim
end
end FF

/-! FFFn2: defs and calls; the law's call. -/
namespace FF
open PySem PySem.Spec PyProof.Rows L2
/-- no exception is looked for -/
abbrev CXn : CXT := fun _ _ _ _ _ _ => False
abbrev SpV := List V → Hp → VK → Prop
/-- the promise of a def where nothing is being shown -/
structure Fg (P : Program) (w : World) (K : PySem.W.Frag) (mg : Str → Option Value) (base : Heap) (k : Nat) (f : Addr) (fd : FuncData) (ps : List Str) (sp : SpV) : Prop where
  many : ∀ vs H Q, sp vs H Q → vs.length = ps.length
  goes : ∀ (A : Around) (outer : List Env) (s : Shared) (H : Hp) (args : Args) (us : List Value) (vs : List V) (Q : VK),
    A.guards = some [] → Room k A → Env0 P w K mg base A outer s H → BindsTo s fd args (ps.zip us) → Vals vs us → sp vs H Q →
    codeAny (model P w) A (.call (.ref f) args) (fun r t => ∃ u, r = .ok (.ret u) ∧ CE outer P w H s Q u t) s
/-- the context of a body -/
abbrev Xb (P : Program) (w : World) (K : PySem.W.Frag) (mg : Str → Option Value) (base : Heap) (N : List Str) (qual : Str) (sc : Scope) (f : Addr) (cd : Value) (A : Around) (outer : List Env) (s : Shared) (H : Hp) : Cx :=
  (cxOf CXn P w K mg base N qual sc f cd A outer s H fun _ _ _ => False).nox
section
variable {P : Program} {w : World} {K : PySem.W.Frag} {mg : Str → Option Value} {base : Heap}
theorem fg_of {k : Nat} {f : Addr} {x q : Str} {pr : Arguments} {body : List Stmt} {sc : Scope} {dV kV doc pm cdv ct oc : Value} {an od : Option Addr} {osl : Array (Option Value)} {N ps : List Str} {sp : SpV}
    (lk : K.lookup f = some ⟨oc, od, .func (PySem.W.fnOf x q pr body sc dV kV doc pm an cdv ct), osl⟩) (ci : PySem.W.codeIn K cdv q = true) (S : FnScope N ps sc)
    (hl : ∀ vs H Q, sp vs H Q → vs.length = ps.length)
    (run : ∀ (A : Around) (outer : List Env) (s : Shared) (H : Hp) (vs : List V) (Q : VK), A.guards = some [] → Room k (A.deeper (envOfC q sc s.heap.objs.size f cdv)) → sp vs H Q →
      ∃ t, PSs (Xb P w K mg base N q sc f cdv A outer s H) body t ∧ t { nx := fun _ G => Q .non G, rt := Q } (L2.start N vs) H) :
    Fg P w K mg base (k + 1) f (PySem.W.fnOf x q pr body sc dV kV doc pm an cdv ct) ps sp := by
  refine ⟨hl, fun A outer s H args us vs Q hgd room en bind rel hsp => ?_⟩
  have kin : K.In s.heap := en.mod.kin.keeps fun b o e => (en.bs b o e).1
  have kinds : ∀ y ∈ ps.zip us, sc.names.lookup y.1 = some .local ∨ (sc.names.lookup y.1 = some .cell ∧ ((cellsFrom (s.heap.objs.size + 1) sc.names []).lookup y.1).isSome = true) := by
    intro ⟨n, v⟩ hy
    exact (S.par n (List.of_mem_zip hy).1).imp id fun c => ⟨c, PySem.W.cellsFrom_some _ _ _ (.inl c)⟩
  refine codeAny_call_function room.depth (kin _ _ lk) rfl S.co S.gen rfl (PySem.W.codeRec_of kin ci) (bind _ _ _ _ (wpAny_newFunctionEnv_cells S.kind kinds fun env ee s1 x => ?_))
  subst ee
  have nl : s.heap.NoLimit := en.mod.nolimit.keeps fun b o e => (en.bs b o e).1
  refine ⟨nl.keeps x.toInCall.keep, codeAny_func ?_⟩
  obtain ⟨t, ht, hq⟩ := run A outer s H vs Q hgd (room.deeper _) hsp
  have I : L2.Inv (cxOf CXn P w K mg base N q sc f cdv A outer s H fun _ _ _ => False) [] (L2.start N vs) H s1 := inv_start S room.hd en (hl _ _ _ hsp) rel x
  refine wpAny_mono (ht.run [] s1 (L2.start N vs) H _ (I.wish _) hq) ?_ ?_
  · rintro (_ | u | _ | _) s' hs <;> replace hs := SP.unwish hs
    · obtain ⟨σ', H', J, q⟩ := hs
      exact ⟨_, rfl, .non, H', J.os, J.bare, J.base, J.hok, rfl, q⟩
    · first
        | (obtain ⟨v, σ', H', J, rv, q⟩ := hs; exact ⟨_, rfl, v, H', J.os, J.bare, J.base, J.hok, rv, q⟩)
        | (obtain ⟨_, _, _, q⟩ := hs; exact q.elim)
    · first
        | (obtain ⟨v, σ', H', J, rv, q⟩ := hs; exact ⟨_, rfl, v, H', J.os, J.bare, J.base, J.hok, rv, q⟩)
        | (obtain ⟨_, _, _, q⟩ := hs; exact q.elim)
    · first
        | (obtain ⟨v, σ', H', J, rv, q⟩ := hs; exact ⟨_, rfl, v, H', J.os, J.bare, J.base, J.hok, rv, q⟩)
        | (obtain ⟨_, _, _, q⟩ := hs; exact q.elim)
  · exact fun e s' hs => False.elim hs
end

/-! ### calls -/
section
variable {X : Cx} {k : Nat} {f : Addr} {fd : FuncData} {ps : List Str} {sp : SpV} {x : Str} {p pos : Pos} {e : Expr} {es : List Expr} {t : TA}
theorem fg_run {pins : List (Addr × Obj)} {σ : L2.St} {H : Hp} {s : Shared} {Q : VK} {args : Args} {us : List Value} {vs : List V} (F : Fg X.prog X.w X.K X.mg X.base k f fd ps sp) (hgd : X.A.guards = some []) (hr : Room k X.A)
    (I : L2.Inv X pins σ H s) (r : Vals vs us) (hb : BindsTo s fd args (ps.zip us)) (h : sp vs H Q) : wpAny (model X.prog X.w) X.A (PySem.call (.ref f) args.pos args.kw) (EP X pins σ Q) X.xe s := by
  refine wpAny_call (codeAny_mono (F.goes X.A X.stack s H args us vs Q hgd hr I.env0 hb r h) ?_)
  rintro _ s' ⟨u, rfl, c⟩
  exact I.after c
theorem pe_fg (F : Fg X.prog X.w X.K X.mg X.base k f fd ps sp) (hgd : X.A.guards = some []) (hr : Room k X.A) (hg : Gl X x) (hm : X.mg x = some (.ref f)) (hk : PySem.W.keepIn X.K (.ref f) = true)
    (hb : ∀ us : List Value, us.length = ps.length → bindArgs fd ⟨us, []⟩ = pure (ps.zip us)) (ha : PA X (e :: es) t) (hdb : (x == ("__debug__" : Str)) = false)
    (he : starEach (e :: es) X.env = (false, eval e X.env) :: starEach es X.env) (hpl : (backTo pos (starEach es X.env)).any (·.1) = false) : PE X (.Call (.Name x p) (e :: es) [] pos) (fun σ H Q => t σ H fun vs G => sp vs G Q) := by
  refine ⟨fun pins s σ H Q I h => wpAny_Call_Name_kw (ld_glob I hg hm ?_ hdb)⟩
  refine PySem.W.callWith_K (h₀ := X.base) I.ok.mod.kin hk (thn (ha.run pos pins s σ H _ I h) ?_) he hpl
  rintro us t1 ⟨vs, G, J, r, q⟩
  exact ⟨J.kIn, fg_run (args := ⟨us, []⟩) F hgd hr J r (.of_eq (hb us (by rw [← r.length]; exact F.many _ _ _ q))) q⟩
theorem pe_fg0 (F : Fg X.prog X.w X.K X.mg X.base k f fd ps sp) (hgd : X.A.guards = some []) (hr : Room k X.A) (hg : Gl X x) (hm : X.mg x = some (.ref f)) (hk : PySem.W.keepIn X.K (.ref f) = true)
    (hb : bindArgs fd ⟨[], []⟩ = pure []) (hps : ps = []) (hdb : (x == ("__debug__" : Str)) = false) : PE X (.Call (.Name x p) [] [] pos) (fun σ H Q => sp [] H Q) := by
  refine ⟨fun pins s σ H Q I h => wpAny_Call_Name_kw (ld_glob I hg hm ?_ hdb)⟩
  subst hps
  exact PySem.W.callWith_K0 I.kIn hk (fg_run (args := ⟨[], []⟩) F hgd hr I .nil (.of_eq hb) h)
/-- which of the written values goes where -/
def perm {α : Type} (l : List Nat) (xs : List α) : List α := l.filterMap fun i => xs[i]?
theorem vals_perm {vs : List V} {us : List Value} (r : Vals vs us) : ∀ l : List Nat, Vals (perm l vs) (perm l us)
  | [] => .nil
  | i :: l => by
    have ih := vals_perm r l
    unfold perm at ih ⊢
    cases e : vs[i]? with
    | some v =>
      obtain ⟨u, e2, k⟩ := r.get e
      rw [List.filterMap_cons_some e, List.filterMap_cons_some e2]
      exact .cons k ih
    | none =>
      have e2 : us[i]? = none := by
        rw [List.getElem?_eq_none_iff] at e ⊢
        rw [← r.length]; exact e
      rw [List.filterMap_cons_none e, List.filterMap_cons_none e2]
      exact ih
theorem rds_perm {K : PySem.W.Frag} {Fr ρ : List Addr} {H : Hp} {ds : List D} {vs : List V} (r : RDs K Fr ρ H ds vs) : ∀ l : List Nat, RDs K Fr ρ H (perm l ds) (perm l vs)
  | [] => .nil
  | i :: l => by
    have ih := rds_perm r l
    unfold perm at ih ⊢
    cases e : ds[i]? with
    | some v =>
      obtain ⟨u, e2, k⟩ := r.get e
      rw [List.filterMap_cons_some e, List.filterMap_cons_some e2]
      exact .cons k ih
    | none =>
      have e2 : vs[i]? = none := by
        rw [List.getElem?_eq_none_iff] at e ⊢
        rw [← r.length]; exact e
      rw [List.filterMap_cons_none e, List.filterMap_cons_none e2]
      exact ih
theorem pe_fgK {ks : List Str} {l : List Nat} {kws : List Keyword} (F : Fg X.prog X.w X.K X.mg X.base k f fd ps sp) (hgd : X.A.guards = some []) (hr : Room k X.A) (hg : Gl X x) (hm : X.mg x = some (.ref f)) (hk : PySem.W.keepIn X.K (.ref f) = true)
    (hb : ∀ ws : List Value, (perm l ws).length = ps.length → bindArgs fd ⟨[], ks.zip ws⟩ = pure (ps.zip (perm l ws))) (ha : PK X kws t) (hdb : (x == ("__debug__" : Str)) = false)
    (hall : (backToKw pos (keywordEach kws X.env)).all (·.1.isSome) = true) (hks : (backToKw pos (keywordEach kws X.env)).filterMap (·.1) = ks)
    (hpl : ((backTo pos (starEach [] X.env)).any (·.1) || (backToKw pos (keywordEach kws X.env)).any (·.1.isNone)) = false) : PE X (.Call (.Name x p) [] kws pos) (fun σ H Q => t σ H fun vs G => sp (perm l vs) G Q) := by
  refine ⟨fun pins s σ H Q I h => wpAny_Call_Name_kw (ld_glob I hg hm ?_ hdb)⟩
  refine PySem.W.callWith_KW0 (h₀ := X.base) I.ok.mod.kin hk hall (thn (ha.run pos pins s σ H _ I h) ?_) hpl
  rintro ws t1 ⟨vs, G, J, r, q⟩
  rw [hks]
  have r2 := vals_perm r l
  exact ⟨J.kIn, fg_run (args := ⟨[], ks.zip ws⟩) F hgd hr J r2 (.of_eq (hb ws (by rw [← r2.length]; exact F.many _ _ _ q))) q⟩
/-- the keywords' values -/
def SK (X : Cx) (W : EK X.K) (kws : List Keyword) (fs : Env' → Hq → R (List D × Hq)) : Prop := PK X kws (TAk X.K W fs)
theorem PK.imp {e : List Keyword} {t t' : TA} (h : PK X e t) (i : ∀ σ H Q, t' σ H Q → t σ H Q) : PK X e t' := ⟨fun pos pins s σ H Q I q => h.run pos pins s σ H Q I (i _ _ _ q)⟩
theorem sk_nil {W : EK X.K} : SK X W [] (fun _ h => .ok ([], h)) := PK.imp pk_nil fun σ H Q ⟨Fr, ρ, s, h, r, sr, ok⟩ => ok [] ρ H .refl r RDs.nil
theorem sk_cons {W : EK X.K} {nm : Option Str} {kpos : Pos} {kws : List Keyword} {fe : Env' → Hq → R (D × Hq)} {fs : Env' → Hq → R (List D × Hq)} (he : SE X W e fe) (hs : SK X W kws fs) :
    SK X W (⟨nm, e, kpos⟩ :: kws) (fun s h => (fe s h).bind fun p => (fs s p.2).bind fun q => .ok (p.1 :: q.1, q.2)) := by
  refine PK.imp (pk_cons he hs) fun σ H Q ⟨Fr, ρ, s, h, r, sr, ok⟩ => ⟨Fr, ρ, s, h, r, sr, (okR_bind.mp ok).mono (fun p q v ρ1 H1 x1 r1 d1 => ?_) fun _ _ z => z⟩
  refine ⟨Fr, ρ1, s, p.2, r1, sr.mono x1, (okR_bind.mp q).mono (fun p2 q2 w ρ2 H2 x2 r2 d2 => ?_) fun _ _ z => W.mono x1 r1 z⟩
  exact q2 _ ρ2 H2 (x1.step r1 x2) r2 (.cons (RD.mono x2 _ _ d1) d2)
end
/-- a def of the text that may be called -/
structure Cal (P : Program) (w : World) (K : PySem.W.Frag) (mg : Str → Option Value) (base : Heap) (k : Nat) (fx : List D → Hq → R (D × Hq)) (st : Stmt) (x : Str) (ps : List Str) : Prop where
  ex : ∃ (f : Addr) (kV doc pm : Value) (an : Option Addr) (cdv ct : Value), Fg P w K mg base k f (PySem.W.fnOf x x (defArgs st) (defBody st) (defScope st) .none kV doc pm an cdv ct) ps (spF K fx) ∧ mg x = some (.ref f) ∧ PySem.W.keepIn K (.ref f) = true
section
variable {X : Cx} {k : Nat} {fx : List D → Hq → R (D × Hq)} {st : Stmt} {ps : List Str} {x : Str} {p pos : Pos} {e : Expr} {es : List Expr}
theorem se_call {fs : Env' → Hq → R (List D × Hq)} (C : Cal X.prog X.w X.K X.mg X.base k fx st x ps) (hgd : X.A.guards = some []) (hr : Room k X.A) (hg : Gl X x)
    (hb : ∀ (kV doc pm : Value) (an : Option Addr) (cdv ct : Value) (us : List Value), us.length = ps.length → bindArgs (PySem.W.fnOf x x (defArgs st) (defBody st) (defScope st) .none kV doc pm an cdv ct) ⟨us, []⟩ = pure (ps.zip us))
    (ha : SA X (EK.none X.K) (e :: es) fs) (hdb : (x == ("__debug__" : Str)) = false) (he : starEach (e :: es) X.env = (false, eval e X.env) :: starEach es X.env) (hpl : (backTo pos (starEach es X.env)).any (·.1) = false) :
    SE X (EK.none X.K) (.Call (.Name x p) (e :: es) [] pos) (fun s h => (fs s h).bind fun q => fx q.1 q.2) := by
  obtain ⟨f, kV, doc, pm, an, cdv, ct, F, hm, hk⟩ := C.ex
  exact PE.imp (pe_fg F hgd hr hg hm hk (hb _ _ _ _ _ _) ha hdb he hpl) fun σ H Q t => (tA (g := fx) t).mono fun xs G ⟨Fr, ρ, h, ds, r, d, ok⟩ => ⟨Fr, ρ, h, ds, r, d, ok⟩
theorem se_callK {ks : List Str} {l : List Nat} {kws : List Keyword} {fs : Env' → Hq → R (List D × Hq)} (C : Cal X.prog X.w X.K X.mg X.base k fx st x ps) (hgd : X.A.guards = some []) (hr : Room k X.A) (hg : Gl X x)
    (hb : ∀ (kV doc pm : Value) (an : Option Addr) (cdv ct : Value) (ws : List Value), (perm l ws).length = ps.length → bindArgs (PySem.W.fnOf x x (defArgs st) (defBody st) (defScope st) .none kV doc pm an cdv ct) ⟨[], ks.zip ws⟩ = pure (ps.zip (perm l ws)))
    (ha : SK X (EK.none X.K) kws fs) (hdb : (x == ("__debug__" : Str)) = false)
    (hall : (backToKw pos (keywordEach kws X.env)).all (·.1.isSome) = true) (hks : (backToKw pos (keywordEach kws X.env)).filterMap (·.1) = ks)
    (hpl : ((backTo pos (starEach [] X.env)).any (·.1) || (backToKw pos (keywordEach kws X.env)).any (·.1.isNone)) = false) :
    SE X (EK.none X.K) (.Call (.Name x p) [] kws pos) (fun s h => (fs s h).bind fun q => fx (perm l q.1) q.2) := by
  obtain ⟨f, kV, doc, pm, an, cdv, ct, F, hm, hk⟩ := C.ex
  refine PE.imp (pe_fgK F hgd hr hg hm hk (hb _ _ _ _ _ _) ha hdb hall hks hpl) fun σ H Q t => (tA (g := fun ds h => fx (perm l ds) h) t).mono fun xs G ⟨Fr, ρ, h, ds, r, d, ok⟩ => ⟨Fr, ρ, h, _, r, rds_perm d l, ok⟩
/-- a def keeps its promise -/
theorem cal_of {P : Program} {w : World} {K : PySem.W.Frag} {mg : Str → Option Value} {base : Heap} {f : Addr} {φ : Fn} {d : Def} {N : List Str} {kV doc pm cdv ct oc : Value} {an od : Option Addr} {osl : Array (Option Value)}
    (lk : K.lookup f = some ⟨oc, od, .func (PySem.W.fnOf x x (defArgs st) (defBody st) (defScope st) .none kV doc pm an cdv ct), osl⟩) (ci : PySem.W.codeIn K cdv x = true) (hm : mg x = some (.ref f)) (hk : PySem.W.keepIn K (.ref f) = true)
    (S : FnScope N ps (defScope st)) (hn : d.names.length = N.length) (hp : d.nps = ps.length)
    (body : ∀ (A : Around) (outer : List Env) (s : Shared) (H : Hp), A.guards = some [] → Room k (A.deeper (envOfC x (defScope st) s.heap.objs.size f cdv)) →
      SB (Xb P w K mg base N x (defScope st) f cdv A outer s H) (EK.none K) (defBody st) (exB φ d.body)) : Cal P w K mg base (k + 1) (runDef φ d) st x ps := by
  have hpl : ps.length ≤ N.length := by have := congrArg List.length S.pre; rw [List.length_take] at this; omega
  refine ⟨f, kV, doc, pm, an, cdv, ct, fg_of lk ci S (fun vs H Q h => ?_) (fun A outer s H vs Q hgd hr h => ?_), hm, hk⟩
  · rw [← hp]; exact (body_ok h hn (by rw [hp]; exact hpl)).1
  · exact ⟨_, body A outer s H hgd hr, (body_ok h hn (by rw [hp]; exact hpl)).2⟩
end
end FF

/-! FFHead: the law's own call. -/
namespace FF
open PySem PySem.Spec PyProof.Rows L2
section
/-- the heap in which the script alone is known -/
def scrH (K : PySem.W.Frag) (a : Addr) (o : Obj) (ns : List Int) : Hp := fun b => if b = a ∧ K.lookup a = none then some (.frz o (.lst (ns.map V.int))) else none
theorem scrH_some {K : PySem.W.Frag} {a b : Addr} {o : Obj} {ns : List Int} {u : HO} (h : scrH K a o ns b = some u) : b = a ∧ K.lookup a = none ∧ u = .frz o (.lst (ns.map V.int)) := by
  unfold scrH at h
  split at h
  · rename_i c; cases h; exact ⟨c.1, c.2, rfl⟩
  · cases h
theorem scrH_at {K : PySem.W.Frag} {a : Addr} {o : Obj} {ns : List Int} (h : K.lookup a = none) : scrH K a o ns a = some (.frz o (.lst (ns.map V.int))) := if_pos ⟨rfl, h⟩
theorem law_goes {P : Program} {w : World} {K : PySem.W.Frag} {mg mb : Str → Option Value} {k : Nat} {fa a : Addr} {fd : FuncData} {x : Str} {fx : List D → Hq → R (D × Hq)} {s : Shared} {vs : List Value} {ns : List Int}
    (kin : K.In s.heap) (nsM : s.heap.Ns mainGlobals mg) (nsB : s.heap.Ns builtinsNs mb) (boot : ∀ y : Str, y ≠ "__name__" → mb y = bootBuiltins y) (nol : s.heap.NoLimit) (gens : s.gens = #[])
    (obj : s.heap.get? a = some { cls := .type "list", data := .seq vs.toArray }) (inz : IntsAre vs ns) (few : ns.length ≤ sizeLine) (room : Room k callerA) (nolam : lamTabs K = [])
    (F : ∀ base : Heap, K.In base → base.Ns mainGlobals mg → Fg P w K mg base k fa fd [x] (spF K fx)) (bind : ∀ (t : Shared) (u : Value), BindsTo t fd ⟨[u], []⟩ [(x, u)])
    (told : ∃ h', fx [.scr ns] [] = .ok (.bl true, h')) :
    codeAny (model P w) callerA (.call (.ref fa) ⟨[.ref a], []⟩) (fun r t => r = .ok (.ret (.bool true)) ∧ OldK s.heap t.heap ∧ t.os = s.os ∧ AllBare t.gens) s := by
  have vals := vals_ints inz
  let ob : Obj := { cls := .type "list", data := .seq vs.toArray }
  let H : Hp := scrH K a ob ns
  have seen : ∀ {b : Addr} {o : Obj}, s.heap.get? b = some o → H b = none → (hidT s.heap H).get? b = some o := fun e z => hidT_get e z
  have free : ∀ {b : Addr} {o : Obj}, K.lookup b = some o → H b = none := by
    intro b o e
    cases q : H b with
    | none => rfl
    | some u =>
      obtain ⟨rfl, z, _⟩ := scrH_some q
      rw [e] at z; cases z
  have nsOf : ∀ {b : Addr} {m : Str → Option Value}, s.heap.Ns b m → (hidT s.heap H).Ns b m := by
    rintro b m ⟨o, es, ep, e, d, rest⟩
    refine ⟨o, es, ep, seen e ?_, d, rest⟩
    cases q : H b with
    | none => rfl
    | some u =>
      obtain ⟨rfl, _, _⟩ := scrH_some q
      rw [obj] at e; cases e
      have d : Data.seq vs.toArray _ = Data.dict es ep := d
      cases d
  have kb : K.In (hidT s.heap H) := fun b o e => seen (kin b o e) (free e)
  have mod : Mod K mg (hidT s.heap H) := by
    obtain ⟨mc, z1, z2⟩ := nol
    exact ⟨kb, nsOf nsM, ⟨mb, nsOf nsB, boot⟩, mc, nsOf z1, z2⟩
  have hok : HOk P w H s.heap := by
    intro b u q
    obtain ⟨rfl, _, rfl⟩ := scrH_some q
    exact ⟨obj, by rw [List.length_map]; exact few, vs, _, vals, obj⟩
  have en : Env0 P w K mg (hidT s.heap H) callerA [] s H :=
    ⟨rfl, mod, fun b o e => of_hidT e, Nat.le_of_eq (hidT_size _ _), trivial, fun b hb => absurd hb List.not_mem_nil, hok, .of_eq gens⟩
  have rd : RD K [] [] H (.scr ns) (.ref a) := by
    unfold RD
    refine ⟨a, rfl, ?_⟩
    cases e : K.lookup a with
    | none => exact .inl ⟨⟨.inr ⟨ob, scrH_at e⟩, List.not_mem_nil⟩, List.not_mem_nil⟩
    | some o =>
      have z := kin a o e
      rw [obj] at z; cases z
      exact .inr ⟨_, vs.toArray, _, e, rfl, rfl, rfl, by rw [List.size_toArray, inz.length]; exact few, by simpa using vals⟩
  have hr : HR K [] [] [] H := ⟨rfl, .nil, fun b hb => absurd hb List.not_mem_nil, fun P q l => (by obtain ⟨c, l⟩ := l; rw [nolam] at l; cases l), fun b hb => absurd hb List.not_mem_nil, fun n o e => by simp at e⟩
  obtain ⟨h', told⟩ := told
  have sp : spF K fx [.ref a] H (fun v _ => v = .bl true) := by
    refine ⟨[], [], [], [.scr ns], hr, .cons rd .nil, ?_⟩
    rw [told]
    intro v ρ' H' _ _ d
    unfold RD at d
    exact d
  refine codeAny_mono ((F _ kb (nsOf nsM)).goes callerA [] s H ⟨[.ref a], []⟩ [.ref a] [.ref a] _ rfl room en (bind s (.ref a)) (.cons rfl .nil) sp) ?_
  rintro _ t ⟨u, rfl, v, G, os, bare, un, okG, rv, q⟩
  have q : v = .bl true := q
  subst q
  obtain rfl : u = Value.bool true := rv
  refine ⟨rfl, OldK.of_keep fun b o e => ?_, os, bare⟩
  cases z : H b with
  | none => exact un.keep b o e z (fun y => absurd y List.not_mem_nil) (by simp)
  | some y =>
    obtain ⟨rfl, _, rfl⟩ := scrH_some z
    have z2 := un.frzs _ _ _ z
    have w1 := (hok _ _ z).1
    have w2 := (okG _ _ z2).1
    rw [e] at w1; cases w1
    exact w2
/-- the goal that the head of a row leaves -/
theorem law_walk {l : PySem.W.OpenLaw} {n k : Nat} {q : Program} {loose : List Str} {XP : (Str → Option Value) → Heap → Prop} {YP : World → Heap → Prop} {d : DefRec} {K : Params → PySem.W.Frag} {fx : List D → Hq → R (D × Hq)} {x : Str}
    (most : l.most = some n) (n2 : n ≤ sizeLine) (dfl : d.params.defaults = []) (room : Room k callerA)
    (told : ∀ ns : List Int, ns.length ≤ n → (∀ z ∈ ns, Builtin.Int.intBits z ≤ 1048576) → ∃ h', fx [.scr ns] [] = .ok (.bl true, h'))
    (yk : ∀ (w : World) (h : Heap), YP w h → (K w.params).In h) (nolam : ∀ p : Params, lamTabs (K p) = [])
    (F : ∀ (w : World) (mg : Str → Option Value) (fa : Addr) (h : Heap), (K w.params).In h → h.Ns mainGlobals mg → mg d.name = some (.ref fa) →
      ∃ fd : FuncData, (∀ (s : Shared) (u : Value), BindsTo s fd ⟨[u], []⟩ [(x, u)]) ∧
        ∀ base : Heap, (K w.params).In base → base.Ns mainGlobals mg → Fg l.prog w (K w.params) mg base k fa fd [x] (spF (K w.params) fx)) :
    PySem.W.WalkO q loose XP YP l.row.toRowW d [] (fun f vs => PySem.call f vs) := by
  refine Att.attach_callB most dfl fun w s0 s1 mg mb fa o pm cd doc a vs ns G Y _ _ _ hmg obj inz len bits gens => ?_
  obtain ⟨fd, hb, hF⟩ := F w mg fa _ (yk w _ Y) G.T.g hmg
  exact law_goes (yk w _ Y) G.T.g G.T.b G.T.builtins G.T.nolimit gens obj inz (Nat.le_trans len n2) room (nolam _) hF hb (told ns len bits)
end
end FF

/-! FFDict: displays of dicts. -/
namespace FF
open PySem PySem.Spec PyProof.Rows L2
abbrev FD := Env' → Hq → R (D × Hq)
/-- keys and values, one behind another -/
def seqD : List (FD × FD) → Env' → Hq → R (List D × Hq)
  | [], _, h => .ok ([], h)
  | (fk, fv) :: r, s, h => (fk s h).bind fun p => ((fv s p.2).bind fun q => (seqD r s q.2).bind fun t => .ok (q.1 :: t.1, t.2)).bind fun q => .ok (p.1 :: q.1, q.2)
def flat2 : List (V × V) → List V
  | [] => []
  | p :: r => p.1 :: p.2 :: flat2 r
def trsOf (K : PySem.W.Frag) (l : List (FD × FD)) : List (TE × TE) := l.map fun p => (TEk K (EK.none K) p.1, TEk K (EK.none K) p.2)
theorem pairs_t {K : PySem.W.Frag} : ∀ (l : List (FD × FD)) (σ : L2.St) (H : Hp) (Q : List (V × V) → Hp → Prop) (Fr ρ : List Addr) (s : Env') (h : Hq), HR K Fr ρ h H → SR K Fr ρ H s σ →
    okR (fun q => ∀ ps ρ' H', Ext ρ H ρ' H' → HR K Fr ρ' q.2 H' → RDs K Fr ρ' H' q.1 (flat2 ps) → Q ps H') (fun _ _ => False) (seqD l s h) → tPairs (trsOf K l) σ H Q
  | [], σ, H, Q, Fr, ρ, s, h, r, sr, ok => ok [] ρ H .refl r RDs.nil
  | (fk, fv) :: l, σ, H, Q, Fr, ρ, s, h, r, sr, ok => by
    refine ⟨Fr, ρ, s, h, r, sr, (okR_bind.mp ok).mono (fun p q v ρ1 H1 x1 r1 d1 => ?_) fun _ _ z => z⟩
    have q := okR_bind.mp (okR_bind.mp q)
    refine ⟨Fr, ρ1, s, p.2, r1, sr.mono x1, q.mono (fun p2 q2 w ρ2 H2 x2 r2 d2 => ?_) fun _ _ z => z⟩
    have x12 := x1.step r1 x2
    refine pairs_t l σ H2 _ Fr ρ2 s p2.2 r2 (sr.mono x12) ((okR_bind.mp q2).mono (fun p3 q3 ps ρ3 H3 x3 r3 d3 => ?_) fun _ _ z => z)
    refine q3 ((v, w) :: ps) ρ3 H3 (x12.step r2 x3) r3 ?_
    exact .cons (RD.mono (x2.step r2 x3) _ _ d1) (.cons (RD.mono x3 _ _ d2) d3)
theorem pairs_kr {K : PySem.W.Frag} {Fr ρ : List Addr} {H : Hp} : ∀ {ps : List (V × V)} {ds : List D} {kvs : List (Key × D)}, RDs K Fr ρ H ds (flat2 ps) → pairsOf ds = some kvs → ∃ vs : List (Key × V), ps = vs.map (fun kv => (kV kv.1, kv.2)) ∧ KR K Fr ρ H kvs vs
  | [], ds, kvs, r, e => by
    have hl := r.length
    cases ds with
    | nil => unfold pairsOf at e; cases e; exact ⟨[], rfl, KR.nil⟩
    | cons _ _ => cases hl
  | p :: ps, ds, kvs, r, e => by
    have hl := r.length
    match ds, e, hl, r with
    | [], _, hl, _ => cases hl
    | [_], _, hl, _ => cases hl
    | a :: b :: t, e, _, r =>
      unfold pairsOf at e
      split at e
      · rename_i k kvs' e1 e2
        cases e
        unfold flat2 RDs at r
        obtain ⟨v, t1, z, k1, r⟩ := r
        cases z
        unfold RDs at r
        obtain ⟨v, t1, z, k2, r⟩ := r
        cases z
        obtain ⟨vs, e3, q⟩ := pairs_kr r e2
        obtain ⟨pk, pv⟩ := p
        have := kv_of_key e1 k1
        dsimp only at this k2
        subst this
        exact ⟨(k, pv) :: vs, by rw [e3]; rfl, KR.cons k2 q⟩
      · cases e
theorem kr_fold {K : PySem.W.Frag} {Fr ρ : List Addr} {H : Hp} : ∀ {kvs : List (Key × D)} {vs : List (Key × V)} {a : List (Key × D)} {b : List (Key × V)}, KR K Fr ρ H kvs vs → KR K Fr ρ H a b →
    KR K Fr ρ H (kvs.foldl (fun acc kv => kput acc kv.1 kv.2) a) (mergeK b vs)
  | [], vs, a, b, r, q => by
    have := r.length
    cases vs with
    | nil => exact q
    | cons _ _ => cases this
  | p :: kvs, vs, a, b, r, q => by
    obtain ⟨v, t, rfl, k1, r⟩ := r.cases
    exact kr_fold (kvs := kvs) (vs := t) (a := kput a p.1 p.2) (b := putK b p.1 v) r (q.put k1)
section
variable {X : Cx} {pos : Pos}
theorem se_dct {l : List (FD × FD)} {keys : List (Option Expr)} {values : List Expr} (h : PPs X pos keys values (trsOf X.K l)) (hall : keys.all (·.isSome) = true) (hl : keys.length = values.length) (h0 : keys ≠ []) (h15 : keys.length ≤ 15) :
    SE X (EK.none X.K) (.Dict keys values pos) (fun s h => (seqD l s h).bind fun q => lift (mkD true q.1 q.2)) := by
  refine PE.imp (pe_disp h hall hl h0 h15) fun σ H Q ⟨Fr, ρ, s, h, r, sr, ok⟩ p hp => ?_
  have hf : ∀ a ∈ p :: Fr, a ∈ Fr ∨ H a = none := fun a ha => (List.mem_cons.mp ha).elim (fun e => .inr (e ▸ hp)) .inl
  have x0 : Ext ρ H ρ (upd H p (.dK [])) := ext_new hp
  have nf := r.fresh hp
  refine pairs_t l σ _ _ (p :: Fr) ρ s h (r.aside hp) ((sr.fr hf).mono x0) ((okR_bind.mp ok).mono (fun q ok ps ρ1 H1 x1 r1 d1 => ?_) fun _ _ z => z)
  obtain ⟨y, e, k⟩ := okR_lift ok
  have hp1 : H1 p = some (.dK []) := x1.keep p _ nf.1 upd_same
  refine ⟨hp1, ?_⟩
  unfold mkD at e
  split at e
  · rename_i kvs ek
    split at e
    · rename_i h15
      rw [if_pos rfl] at e
      cases e
      obtain ⟨vs, rfl, kr⟩ := pairs_kr d1 ek
      refine ⟨vs, rfl, by rw [← kr.length]; exact h15, ?_⟩
      have hpF : p ∈ p :: Fr := List.mem_cons_self
      have kr1 := (kr_fold kr KR.nil).alt (o := .dK (mergeK [] vs)) hpF rfl hp1
      have r2 := (r1.alt (o := .dK (mergeK [] vs)) hpF rfl hp1).ownO (b := .dct (kvs.foldl (fun acc kv => kput acc kv.1 kv.2) [])) nf.2 rfl upd_same ⟨_, upd_same, kr1⟩
      have nρ : p ∉ ρ1 := fun z => r1.dj p z hpF
      refine k _ (ρ1 ++ [p]) _ ⟨?_, fun a o n e ht => ?_⟩ r2 ?_
      · obtain ⟨m, em, hm⟩ := x1.more
        refine ⟨m ++ [p], by rw [em, List.append_assoc], fun a ha o ho => ?_⟩
        rcases List.mem_append.mp ha with z | z
        · have := hm a z o
          by_cases e : a = p
          · rw [e, hp] at ho; cases ho
          · rw [upd_ne e] at this; exact this ho
        · rw [List.mem_singleton] at z; rw [z, hp] at ho; cases ho
      · have hne : a ≠ p := ne_of_none e hp
        rw [upd_ne hne]
        exact x1.keep a o n (by rw [upd_ne hne]; exact e) ht
      · unfold RD
        exact ⟨p, rfl, by rw [List.getElem?_append_right (by rw [r1.len]; exact Nat.le_refl _), r1.len]; simp⟩
    · cases e
  · cases e
end
end FF

/-! FFWalk: the rules by the core's forms. -/
namespace FF
open PySem PySem.Spec PyProof.Rows L2
section
variable {X : Cx} {W : EK X.K} {φ : Fn} {pos : Pos}
theorem w_var {x : Str} {i : Nat} (hN : X.N[i]? = some x) (hv : Vis X.env.scope x) (hd : (x == ("__debug__" : Str)) = false) (hcd : (x == ("__classdict__" : Str)) = false) : SE X W (.Name x pos) (ev φ (.var i)) := se_var hN hv hd hcd
theorem w_non {k : Nat} : SE X W (.Constant .none k pos) (ev φ (.const .non)) := se_const pe_non fun _ _ _ => by unfold RD; rfl
theorem w_bool {k : Nat} {b : Bool} : SE X W (.Constant (.bool b) k pos) (ev φ (.const (.bl b))) := se_const pe_bl fun _ _ _ => by unfold RD; rfl
theorem w_int {k : Nat} {i : Int} : SE X W (.Constant (.int i) k pos) (ev φ (.const (.int i))) := se_const pe_int fun _ _ _ => by unfold RD; rfl
theorem w_str {k : Nat} {i : Str} : SE X W (.Constant (.str i) k pos) (ev φ (.const (.str i))) := se_const pe_str fun _ _ _ => by unfold RD; rfl
theorem w_bin {op : Operator} {live : Bool} {a b : Expr} {ca cb : Ex} (ha : SE X W a (ev φ ca)) (hb : SE X W b (ev φ cb)) : SE X W (.BinOp a op b pos) (ev φ (.bin op live ca cb)) := se_bin ha hb
theorem w_neg {a : Expr} {ca : Ex} (ha : SE X W a (ev φ ca)) : SE X W (.UnaryOp .USub a pos) (ev φ (.neg ca)) := se_neg ha
theorem w_cmp {op : CmpOp} {a b : Expr} {ca cb : Ex} (hu : X.A.units + 65 < cLine) (ha : SE X W a (ev φ ca)) (hb : SE X W b (ev φ cb)) (hm : behindInMarks op b = false) : SE X W (.Compare a [op] [b] pos) (ev φ (.cmp op ca cb)) := se_cmp hu ha hb hm
theorem w_not {a : Expr} {ca : Ex} (ha : SE X W a (ev φ ca)) : SE X W (.UnaryOp .Not a pos) (ev φ (.notV ca)) := se_not ha
theorem w_and {a b : Expr} {r : List Expr} {ca cb : Ex} (ha : SE X W a (ev φ ca)) (hb : SE X W (.BoolOp .And (b :: r) pos) (ev φ cb)) : SE X W (.BoolOp .And (a :: b :: r) pos) (ev φ (.andV ca cb)) := se_and ha hb
theorem w_one {op : BoolOp} {a : Expr} {ca : Ex} (ha : SE X W a (ev φ ca)) : SE X W (.BoolOp op [a] pos) (ev φ ca) := se_one ha
theorem w_chain {op op' : CmpOp} {a b c : Expr} {ca cb cc : Ex} (hu : X.A.units + 65 < cLine) (ha : SE X W a (ev φ ca)) (hb : SE X W b (ev φ cb)) (hc : SE X W c (ev φ cc)) (hm : lastMarks [op, op'] [b, c] = false) :
    SE X W (.Compare a [op, op'] [b, c] pos) (ev φ (.cmp2 op op' ca cb cc)) := se_chain hu ha hb hc hm
theorem w_if {t a b : Expr} {ct ca cb : Ex} (ht : ST X W t (fun s h => testOf (ev φ ct s h))) (ha : SE X W a (ev φ ca)) (hb : SE X W b (ev φ cb)) : SE X W (.IfExp t a b pos) (ev φ (.ife ct ca cb)) := se_if ht ha hb
theorem w_ix {a b : Expr} {ca cb : Ex} (hu : X.A.units + 1 < cLine) (ha : SE X W a (ev φ ca)) (hb : SE X W b (ev φ cb)) (hs : PlainIx b) : SE X W (.Subscript a b pos) (ev φ (.ix ca cb)) := se_ix hu ha hb hs
theorem w_slice {e : Expr} {lo hi : Option Expr} {p2 : Pos} {ce : Ex} {cl ch : Exo} (he : SE X W e (ev φ ce)) (hl : SO X W lo (evO φ cl)) (hh : SO X W hi (evO φ ch)) : SE X W (.Subscript e (.Slice lo hi none p2) pos) (ev φ (.slice ce cl ch)) := se_slice he hl hh
theorem w_no : SO X W none (evO φ .no) := so_no
theorem w_yes {e : Expr} {ce : Ex} (he : SE X W e (ev φ ce)) : SO X W (some e) (evO φ (.yes ce)) := so_yes he
theorem w_anil : SA X W [] (evs φ .nil) := sa_nil
theorem w_acons {e : Expr} {es : List Expr} {ce : Ex} {cs : Exs} (he : SE X W e (ev φ ce)) (hs : SA X W es (evs φ cs)) (hst : starEach (e :: es) X.env = (false, eval e X.env) :: starEach es X.env) : SA X W (e :: es) (evs φ (.cons ce cs)) := sa_cons he hs hst
theorem w_knil : SK X W [] (evs φ .nil) := sk_nil
theorem w_kcons {nm : Option Str} {kpos : Pos} {e : Expr} {es : List Keyword} {ce : Ex} {cs : Exs} (he : SE X W e (ev φ ce)) (hs : SK X W es (evs φ cs)) : SK X W (⟨nm, e, kpos⟩ :: es) (evs φ (.cons ce cs)) := sk_cons he hs
theorem w_tup {es : List Expr} {x1 : Nat} {cs : Exs} (h : SA X W es (evs φ cs)) : SE X W (.Tuple es x1 pos) (ev φ (.tup cs)) := se_tup h
theorem w_lst {es : List Expr} {live : Bool} {cs : Exs} (h : SA X W es (evs φ cs)) : SE X W (.List es pos) (ev φ (.lst live cs)) := se_lst h
/-! built-ins -/
theorem w_cb {id : String} {x : Str} {e : Expr} {es : List Expr} {p : Pos} {f : Bi} {live : Bool} {cs : Exs} (hc : CallR X (.builtin id) (rDs X.K (biD f live))) (hg : Gl X x) (hm : X.mg x = none) (hv : bootBuiltins x = some (.builtin id))
    (ha : SA X W (e :: es) (evs φ cs)) (hn : x ≠ "__name__") (hdb : (x == ("__debug__" : Str)) = false) (he : starEach (e :: es) X.env = (false, eval e X.env) :: starEach es X.env) (hpl : (backTo pos (starEach es X.env)).any (·.1) = false) :
    SE X W (.Call (.Name x p) (e :: es) [] pos) (ev φ (.bi f live cs)) := se_cb hc hg hm hv ha hn hdb he hpl
theorem w_ct {id : String} {x : Str} {e : Expr} {es : List Expr} {p : Pos} {f : Bi} {live : Bool} {cs : Exs} (hc : CallR X (.type id) (rDs X.K (biD f live))) (hg : Gl X x) (hm : X.mg x = none) (hv : bootBuiltins x = some (.type id))
    (ha : SA X W (e :: es) (evs φ cs)) (hn : x ≠ "__name__") (hdb : (x == ("__debug__" : Str)) = false) (he : starEach (e :: es) X.env = (false, eval e X.env) :: starEach es X.env) (hpl : (backTo pos (starEach es X.env)).any (·.1) = false) :
    SE X W (.Call (.Name x p) (e :: es) [] pos) (ev φ (.bi f live cs)) := se_ct hc hg hm hv ha hn hdb he hpl
/-! methods of lists -/
theorem me_l {m : Me} {g : D → List D → Hq → Option (D × Hq)} {co : Ex} {cs : Exs} (hm : ∀ k, meFits m k = true → k = .lst) (hg : ∀ x ds h, meD .lst m x ds h = g x ds h) {σ : L2.St} {H : Hp} {Q : VK}
    (t : TEk X.K W (ev φ (.me m co cs)) σ H Q) : TEk X.K W (mthD m .lst g (ev φ co) (evs φ cs)) σ H Q := by
  obtain ⟨Fr, ρ, s, h, r, sr, ok⟩ := t
  refine ⟨Fr, ρ, s, h, r, sr, okR_bind.mpr ((okR_bind.mp (show okR _ _ ((ev φ co s h).bind _) from ok)).mono (fun p q => ?_) fun _ _ z => z)⟩
  have q : okR (Kont X.K Fr ρ H Q) (W.p Fr ρ H σ) (match meKind m p.1 p.2 with | some k => (evs φ cs s p.2).bind fun q => lift (meD k m p.1 q.1 q.2) | none => .stuck) := q
  cases e : meKind m p.1 p.2 with
  | none => rw [e] at q; exact q.elim
  | some k =>
    rw [e] at q
    have hk : k = .lst := hm k (by
      unfold meKind at e
      split at e
      · split at e
        · rename_i f; cases e; exact f
        · cases e
      · cases e)
    subst hk
    rw [if_pos rfl]
    refine okR_bind.mpr ((okR_bind.mp q).mono (fun p2 q2 => ?_) fun _ _ z => z)
    rw [hg] at q2
    exact q2
theorem w_bm {id : String} {o e : Expr} {es : List Expr} {name : Str} {apos : Pos} {m : Me} {g : D → List D → Hq → Option (D × Hq)} {co : Ex} {cs : Exs} (slot : Slot "list" name id) (hty : typeOf (.builtin id) = pure (.type "method_descriptor"))
    (hr : MtR X id (rM X.K g)) (hm : ∀ k, meFits m k = true → k = .lst) (hg : ∀ x ds h, meD .lst m x ds h = g x ds h) (ho : SE X W o (ev φ co)) (ha : SA X W (e :: es) (evs φ cs))
    (hbase : attributeBase o name X.env (eval o X.env) = eval o X.env)
    (hfew : ((backTo pos (starEach (e :: es) X.env)).all (fun x => !x.1) && (backToKw pos (keywordEach [] X.env)).all (fun x => x.1.isSome) && decide ((e :: es).length + ([] : List Keyword).length + (if ([] : List Keyword).isEmpty then 0 else 1) < 30)) = true)
    (hline : (apos.endLine == pos.line) = true) (hs : starEach (e :: es) X.env = (false, eval e X.env) :: starEach es X.env) (hplain : (backTo pos (starEach es X.env)).any (·.1) = false) :
    SE X W (.Call (.Attribute o name apos) (e :: es) [] pos) (ev φ (.me m co cs)) :=
  PE.imp (pe_bm PySem.F.plainAttrs_list slot hty hr ho ha hbase hfew hline hs hplain) fun σ H Q t => tM (fun _ _ _ _ _ _ r k e => ty_lst r k e) (me_l hm hg t)
theorem w_bm0 {id : String} {o : Expr} {name : Str} {apos : Pos} {m : Me} {g : D → List D → Hq → Option (D × Hq)} {co : Ex} (slot : Slot "list" name id) (hty : typeOf (.builtin id) = pure (.type "method_descriptor"))
    (hr : MtR X id (rM X.K g)) (hm : ∀ k, meFits m k = true → k = .lst) (hg : ∀ x ds h, meD .lst m x ds h = g x ds h) (ho : SE X W o (ev φ co))
    (hbase : attributeBase o name X.env (eval o X.env) = eval o X.env) (hline : (apos.endLine == pos.line) = true) :
    SE X W (.Call (.Attribute o name apos) [] [] pos) (ev φ (.me m co .nil)) := by
  refine PE.imp (pe_bm0 PySem.F.plainAttrs_list slot hty hr ho hbase hline) fun σ H Q t => ?_
  obtain ⟨Fr, ρ, s, h, r, sr, ok⟩ := tM (fun _ _ _ _ _ _ r k e => ty_lst r k e) (me_l hm hg t)
  refine ⟨Fr, ρ, s, h, r, sr, ok.mono (fun p q v ρ1 H1 x1 r1 d1 => ?_) fun _ _ z => z⟩
  obtain ⟨ty, Fr, ρ, s, h, r, sr, q⟩ := q v ρ1 H1 x1 r1 d1
  exact ⟨ty, q [] ρ H1 .refl r RDs.nil⟩
theorem fit_append : ∀ k, meFits .append k = true → k = .lst := by intro k; cases k <;> simp [meFits]
theorem fit_pop : ∀ k, meFits .pop k = true → k = .lst := by intro k; cases k <;> simp [meFits]
theorem fit_popAt : ∀ k, meFits .popAt k = true → k = .lst := by intro k; cases k <;> simp [meFits]
/-! dicts -/
/-- the keys and values of a display -/
def prs (φ : Fn) : Exs → List (FD × FD)
  | .cons a (.cons b r) => (ev φ a, ev φ b) :: prs φ r
  | _ => []
def Exs.even : Exs → Bool
  | .cons _ (.cons _ r) => r.even
  | .cons _ .nil => false
  | .nil => true
theorem prs_seq (φ : Fn) : ∀ (es : Exs), es.even = true → evs φ es = seqD (prs φ es)
  | .nil, _ => rfl
  | .cons _ .nil, h => by cases h
  | .cons a (.cons b r), h => by
    funext s h'
    have ih := prs_seq φ r h
    show (ev φ a s h').bind (fun x => ((ev φ b s x.2).bind fun y => (evs φ r s y.2).bind fun z => .ok (y.1 :: z.1, z.2)).bind fun z => .ok (x.1 :: z.1, z.2)) = _
    rw [ih]
    rfl
theorem w_dct {es : Exs} {keys : List (Option Expr)} {values : List Expr} (h : PPs X pos keys values (trsOf X.K (prs φ es))) (he : es.even = true) (hall : keys.all (·.isSome) = true) (hl : keys.length = values.length) (h0 : keys ≠ []) (h15 : keys.length ≤ 15) :
    SE X (EK.none X.K) (.Dict keys values pos) (ev φ (.dct true es)) := by
  have := se_dct h hall hl h0 h15
  rw [← prs_seq φ es he] at this
  exact this
theorem w_pnil : PPs X pos [] [] (trsOf X.K (prs φ .nil)) := pps_nil
theorem w_pcons {k v : Expr} {ks : List (Option Expr)} {vs : List Expr} {ck cv : Ex} {r : Exs} (hk : SE X (EK.none X.K) k (ev φ ck)) (hv : SE X (EK.none X.K) v (ev φ cv)) (hr : PPs X pos ks vs (trsOf X.K (prs φ r))) :
    PPs X pos (some k :: ks) (v :: vs) (trsOf X.K (prs φ (.cons ck (.cons cv r)))) := pps_cons hk hv hr
/-! what is walked, comprehensions -/
theorem w_iex {tg e : Expr} {ce : Ex} (he : SE X W e (ev φ ce)) : SI X W tg e (evIt φ (.ex ce)) := si_ex he
theorem w_range1 {tg e : Expr} {p : Pos} {ce : Ex} (hg : Gl X "range") (hm : X.mg "range" = none) (he : SE X W e (ev φ ce)) (hs : starEach [e] X.env = [(false, eval e X.env)]) : SI X W tg (.Call (.Name "range" p) [e] [] pos) (evIt φ (.range1 ce)) := si_range1 hg hm he hs
theorem w_ifs0 : STs X W [] (evIf φ .nil) := sts_nil
theorem w_ifs1 {c : Expr} {cc : Ex} (h : ST X W c (fun s h => testOf (ev φ cc s h))) : STs X W [c] (evIf φ (.cons cc .nil)) := sts_one h
def ownOf (N : List Str) (os : List Nat) : List (Str × Nat) := os.map fun i => ((N[i]?).getD "", i)
theorem ownOf_snd (N : List Str) : ∀ os : List Nat, (ownOf N os).map (·.2) = os
  | [] => rfl
  | i :: os => by
    show i :: (ownOf N os).map (·.2) = i :: os
    rw [ownOf_snd N os]
theorem w_comp {elt tg iter : Expr} {ifs : List Expr} {scope : Scope} {os : List Nat} {live : Bool} {c : Tg} {ci : It} {cf : Exs} {ce : Ex}
    (hc : X.calm = true) (hN : X.N.Nodup) (hi : SI X W tg iter (evIt φ ci)) (ok : blkC X.N X.env.scope scope (ownOf X.N os) = true)
    (hg : ∀ (s : Shared) (H : Hp) (C : Addr) (cl : List (Str × Addr)) (fp : List Addr), SG (X.blk s H scope (compEnvC scope cl C X.env) fp) tg c)
    (ht : ∀ (s : Shared) (H : Hp) (C : Addr) (cl : List (Str × Addr)) (fp : List Addr), STs (X.blk s H scope (compEnvC scope cl C X.env) fp) (EK.none X.K) ifs (evIf φ cf))
    (he : ∀ (s : Shared) (H : Hp) (C : Addr) (cl : List (Str × Addr)) (fp : List Addr), SE (X.blk s H scope (compEnvC scope cl C X.env) fp) (EK.none X.K) elt (ev φ ce))
    (hs : ∀ x, foldedSetIterable iter X.env x = pure x) (hsl : ∀ i ∈ c.slots, i ∈ os) :
    SE X W (.ListComp elt [⟨tg, iter, ifs, 0⟩] scope pos) (ev φ (.comp live c ci cf ce os)) := by
  have := se_comp (pos := pos) (live := live) hc hN hi (blkOk_by ok) hg ht he hs (by rw [ownOf_snd]; exact hsl)
  rw [ownOf_snd] at this
  exact this
theorem w_setLc {i : Nat} {y : Str} {py : Pos} {elt tg iter : Expr} {ifs : List Expr} {scope : Scope} {os : List Nat} {spos : Pos} {live : Bool} {c : Tg} {ci : It} {cf : Exs} {ce : Ex}
    (hc : X.calm = true) (hN : X.N.Nodup) (hy : X.N[i]? = some y) (hyl : X.env.scope.names.lookup y = some .local)
    (hsw : swapsWith (.ListComp elt [⟨tg, iter, ifs, 0⟩] scope pos) (some (.Name y py)) spos.line X.env = pure true) (hi : SI X W tg iter (evIt φ ci)) (ok : blkC X.N X.env.scope scope (ownOf X.N os) = true)
    (hg : ∀ (s : Shared) (H : Hp) (C : Addr) (cl : List (Str × Addr)) (fp : List Addr), SG (X.blk s H scope (compEnvC scope cl C X.env) fp) tg c)
    (ht : ∀ (s : Shared) (H : Hp) (C : Addr) (cl : List (Str × Addr)) (fp : List Addr), STs (X.blk s H scope (compEnvC scope cl C X.env) fp) (EK.none X.K) ifs (evIf φ cf))
    (he : ∀ (s : Shared) (H : Hp) (C : Addr) (cl : List (Str × Addr)) (fp : List Addr), SE (X.blk s H scope (compEnvC scope cl C X.env) fp) (EK.none X.K) elt (ev φ ce))
    (hs : ∀ x, foldedSetIterable iter X.env x = pure x) (hsl : ∀ i ∈ c.slots, i ∈ os) :
    SS X W (.Assign [.Name y py] (.ListComp elt [⟨tg, iter, ifs, 0⟩] scope pos) spos) (exS φ (.set (.name i) (.comp live c ci cf ce os))) := by
  have := ss_setLc (W := W) (pos := pos) (live := live) hc hN hy hyl hsw hi (blkOk_by ok) hg ht he hs (by rw [ownOf_snd]; exact hsl)
  rw [ownOf_snd] at this
  exact this
/-! statements -/
theorem w_nil : SB X W [] (exB φ .nil) := sb_nil
theorem w_cons {a : Stmt} {r : List Stmt} {ca : Sm} {cr : Sms} (h1 : SS X (EK.none X.K) a (exS φ ca)) (h2 : SB X (EK.none X.K) r (exB φ cr)) : SB X (EK.none X.K) (a :: r) (exB φ (.cons ca cr)) := by
  refine PSs.imp (sb_cons EK.none_flat h1 h2) fun Z σ H ⟨Fr, ρ, s, h, r, sr, ok⟩ => ⟨Fr, ρ, s, h, r, sr, okR_bind.mpr ((okR_bind.mp (show okR _ _ ((exS φ ca s h).bind _) from ok)).mono (fun f q => ?_) fun _ _ z => z)⟩
  cases f <;> exact q
theorem w_expr {e : Expr} {ce : Ex} (he : SE X W e (ev φ ce)) (hs : swapsWith e none pos.line X.env = pure false) : SS X W (.Expr e pos) (exS φ (.expr ce)) := ss_expr he hs
theorem w_ret {e : Expr} {ce : Ex} (he : SE X W e (ev φ ce)) : SS X W (.Return (some e) pos) (exS φ (.ret ce)) := ss_ret he
theorem w_ite {c : Expr} {a b : List Stmt} {cc : Ex} {ca cb : Sms} (hc : ST X W c (fun s h => testOf (ev φ cc s h))) (ha : SB X W a (exB φ ca)) (hb : SB X W b (exB φ cb)) : SS X W (.If c a b pos) (exS φ (.ite cc ca cb)) := ss_if hc ha hb
theorem w_asg {tg e : Expr} {c : Tg} {ce : Ex} (he : SE X W e (ev φ ce)) (hg : SG X tg c) (hs : swapsWithSole [tg] e pos.line X.env = pure false) (hw : swappedStores [tg] e X.env = pure none)
    (h1 : (assignEach [tg] X.env).map (·.2) = [assign tg X.env]) : SS X W (.Assign [tg] e pos) (exS φ (.set c ce)) := ss_asg he hg hs hw h1
theorem w_par {i j : Nat} {x y : Str} {a b : Expr} {px py pt : Pos} {kt k2 pt2} {cs : Exs} (hc : X.calm = true) (hN : X.N.Nodup) (hi : X.N[i]? = some x) (hj : X.N[j]? = some y) (hij : i ≠ j)
    (hx : X.env.scope.names.lookup x = some .local) (hy : X.env.scope.names.lookup y = some .local) (ha : SA X W [a, b] (evs φ cs))
    (hw : swappedStores [.Tuple [.Name x px, .Name y py] kt pt] (.Tuple [a, b] k2 pt2) X.env = pure (some [x, y]))
    (hs : swapsWithSole [.Tuple [.Name x px, .Name y py] kt pt] (.Tuple [a, b] k2 pt2) pos.line X.env = pure false) :
    SS X W (.Assign [.Tuple [.Name x px, .Name y py] kt pt] (.Tuple [a, b] k2 pt2) pos) (exS φ (.set (.tup (.cons (.name i) (.cons (.name j) .nil))) (.tup cs))) := ss_par hc hN hi hj hij hx hy ha hw hs
theorem w_setIx {o i e : Expr} {tpos : Pos} {co ci ce : Ex} (hu : X.A.units + 1 < cLine) (he : SE X W e (ev φ ce)) (ho : SE X (EK.none X.K) o (ev φ co)) (hi : SE X (EK.none X.K) i (ev φ ci)) (hs : swapsWithSole [.Subscript o i tpos] e pos.line X.env = pure false) (hw : swappedStores [.Subscript o i tpos] e X.env = pure none)
    (h1 : (assignEach [.Subscript o i tpos] X.env).map (·.2) = [assign (.Subscript o i tpos) X.env])
    (ha : ∀ v, assign (.Subscript o i tpos) X.env v = (do
      let ov ← holding [v] (eval o X.env)
      let iv ← holding [v, ov] (eval i X.env)
      standAt tpos
      holding [v, ov, iv] (setItem ov iv v)
      release [v, ov, iv] [])) :
    SS X W (.Assign [.Subscript o i tpos] e pos) (exS φ (.setIx co ci ce)) := ss_setIx (set_D hu) he ho hi hs hw h1 ha
theorem w_for {tg iter : Expr} {body : List Stmt} {c : Tg} {ci : It} {cb : Sms} (hc : X.calm = true) (hp : PassesOwn (model X.prog X.w) X.A X.env X.xe) (hi : SI X (EK.none X.K) tg iter (evIt φ ci)) (hg : SG X tg c) (hb : SB X (EK.none X.K) body (exB φ cb))
    (hs : ∀ x, foldedSetIterable iter X.env x = pure x) : SS X (EK.none X.K) (.For tg iter body [] pos) (exS φ (.for c ci cb)) := ss_for EK.none_flat hp hc hi hg hb hs
theorem w_while {t : Expr} {body : List Stmt} {ct : Ex} {cb : Sms} (hp : PassesOwn (model X.prog X.w) X.A X.env X.xe) (ht : ST X (EK.none X.K) t (fun s h => testOf (ev φ ct s h))) (hb : SB X (EK.none X.K) body (exB φ cb)) :
    SS X (EK.none X.K) (.While t body [] pos) (exS φ (.while ct cb)) := ss_while fuel EK.none_flat hp ht hb
/-! tests -/
theorem w_tcmp {op : CmpOp} {a b : Expr} {ca cb : Ex} (hu : X.A.units + 65 < cLine) (ha : SE X W a (ev φ ca)) (hb : SE X W b (ev φ cb)) (hm : behindInMarks op b = false) : ST X W (.Compare a [op] [b] pos) (fun s h => testOf (ev φ (.cmp op ca cb) s h)) := st_cmp hu ha hb hm
theorem w_tnot {a : Expr} {ca : Ex} (ha : ST X W a (fun s h => testOf (ev φ ca s h))) : ST X W (.UnaryOp .Not a pos) (fun s h => testOf (ev φ (.notV ca) s h)) := st_not ha
theorem w_twand {a b : Expr} {r : List Expr} {ca cb : Ex} (ha : ST X W a (fun s h => testOf (ev φ ca s h))) (hb : SW X W (.BoolOp .And (b :: r) pos) (fun s h => testOf (ev φ cb s h))) : SW X W (.BoolOp .And (a :: b :: r) pos) (fun s h => testOf (ev φ (.andV ca cb) s h)) := sw_and ha hb
theorem w_twor {a b : Expr} {r : List Expr} {ca cb : Ex} (ha : ST X W a (fun s h => testOf (ev φ ca s h))) (hb : SW X W (.BoolOp .Or (b :: r) pos) (fun s h => testOf (ev φ cb s h))) : SW X W (.BoolOp .Or (a :: b :: r) pos) (fun s h => testOf (ev φ (.orV ca cb) s h)) := sw_or ha hb
theorem w_tone_and {a : Expr} {ca : Ex} (ha : ST X W a (fun s h => testOf (ev φ ca s h))) : SW X W (.BoolOp .And [a] pos) (fun s h => testOf (ev φ ca s h)) := sw_one_and ha
theorem w_tone_or {a : Expr} {ca : Ex} (ha : ST X W a (fun s h => testOf (ev φ ca s h))) : SW X W (.BoolOp .Or [a] pos) (fun s h => testOf (ev φ ca s h)) := sw_one_or ha
theorem w_tbool {op : BoolOp} {es : List Expr} {ca : Ex} (h : SW X W (.BoolOp op es pos) (fun s h => testOf (ev φ ca s h))) : ST X W (.BoolOp op es pos) (fun s h => testOf (ev φ ca s h)) := PW.pt h
theorem w_tplain {a : Expr} {ca : Ex} (ha : SE X W a (ev φ ca)) (he : ∀ whole, isTrue a X.env whole = (do let v ← whole; standAt a.pos; holding [v] (truthy v))) : ST X W a (fun s h => testOf (ev φ ca s h)) := st_plain ha he
/-! calls -/
theorem w_call {k : Nat} {st : Stmt} {ps : List Str} {x : Str} {p : Pos} {e : Expr} {es : List Expr} {id : Nat} {cs : Exs} (C : Cal X.prog X.w X.K X.mg X.base k (φ id) st x ps) (hgd : X.A.guards = some []) (hr : Room k X.A) (hg : Gl X x)
    (hb : ∀ (kV doc pm : Value) (an : Option Addr) (cdv ct : Value) (us : List Value), us.length = ps.length → bindArgs (PySem.W.fnOf x x (defArgs st) (defBody st) (defScope st) .none kV doc pm an cdv ct) ⟨us, []⟩ = pure (ps.zip us))
    (ha : SA X (EK.none X.K) (e :: es) (evs φ cs)) (hdb : (x == ("__debug__" : Str)) = false) (he : starEach (e :: es) X.env = (false, eval e X.env) :: starEach es X.env) (hpl : (backTo pos (starEach es X.env)).any (·.1) = false) :
    SE X (EK.none X.K) (.Call (.Name x p) (e :: es) [] pos) (ev φ (.call id cs)) := se_call C hgd hr hg hb ha hdb he hpl
theorem w_callK {k : Nat} {st : Stmt} {ps : List Str} {x : Str} {p : Pos} {kws : List Keyword} {ks : List Str} {l : List Nat} {id : Nat} {cs : Exs} (C : Cal X.prog X.w X.K X.mg X.base k (φ id) st x ps) (hgd : X.A.guards = some []) (hr : Room k X.A) (hg : Gl X x)
    (hb : ∀ (kV doc pm : Value) (an : Option Addr) (cdv ct : Value) (ws : List Value), (perm l ws).length = ps.length → bindArgs (PySem.W.fnOf x x (defArgs st) (defBody st) (defScope st) .none kV doc pm an cdv ct) ⟨[], ks.zip ws⟩ = pure (ps.zip (perm l ws)))
    (ha : SK X (EK.none X.K) kws (evs φ cs)) (hdb : (x == ("__debug__" : Str)) = false)
    (hall : (backToKw pos (keywordEach kws X.env)).all (·.1.isSome) = true) (hks : (backToKw pos (keywordEach kws X.env)).filterMap (·.1) = ks)
    (hpl : ((backTo pos (starEach [] X.env)).any (·.1) || (backToKw pos (keywordEach kws X.env)).any (·.1.isNone)) = false) :
    SE X (EK.none X.K) (.Call (.Name x p) [] kws pos) (ev φ (.callK id l cs)) := se_callK C hgd hr hg hb ha hdb hall hks hpl
end
end FF

/-! FFZip: zip of two sequences, each a list or a tuple. -/
namespace FF
open PySem PySem.Spec PyProof.Rows L2
section
variable {X : Cx} {pins : List (Addr × Obj)} {σ : L2.St} {H : Hp} {s : Shared}
end
section
variable {X : Cx} {pos : Pos}
end
end FF

/-! FFEnum: enumerate over whatever begins as told. -/
namespace FF
open PySem PySem.Spec PyProof.Rows
theorem enum_new1 {v : Value} {o : Obj} {G : Heap → Prop} (B : Begins v o G) :
    Meets (Builtin.«enumerate.__new__» ⟨[.type "enumerate", v], []⟩) (fun _ R s => G s.heap ∧
      R (.ok (.ret (.ref (s.heap.push o).objs.size))) { s with heap := (s.heap.push o).push { cls := .type "enumerate", data := .fields #[.none, .bool false, .ref s.heap.objs.size, rawInt 0, .none, .none] } }) :=
  .of_wp fun P w A R s ⟨g1, k⟩ => by
    obtain ⟨hp, g, d, tk, os⟩ := s
    have sub := sub_enumerate
    have go : ∀ {A' : Around} {E Q : Value → Shared → Prop}, Q (.ref hp.objs.size) ⟨hp.push o, g, d, tk, os⟩ → wpAny (model P w) A' (pyIter v) Q E ⟨hp, g, d, tk, os⟩ := fun q => B.iter P w _ _ ⟨hp, g, d, tk, os⟩ _ g1 q
    wp_walk using go
    refine wpAny_stack_any fun st => wpAny_pure ?_
    split
    · rename_i c _ _ _ _ _
      cases (c == Value.type "enumerate") <;> (wp_walk using go; exact ⟨_, rfl, k⟩)
    · wp_walk using go
      exact ⟨_, rfl, k⟩
theorem call_enum1 {P : Program} {w : World} {A : Around} {E : Value → Shared → Prop} {s : Shared} {v : Value} {o : Obj} {G : Heap → Prop} {Q : Value → Shared → Prop} (B : Begins v o G) (g : G s.heap)
    (k : ∀ h', IsEnum h' (s.heap.objs.size + 1) s.heap.objs.size 0 .none → h'.get? s.heap.objs.size = some o → (∀ b o, s.heap.get? b = some o → h'.get? b = some o) → Q (.ref (s.heap.objs.size + 1)) { s with heap := h' }) :
    wpAny (model P w) A (call (.type "enumerate") [v]) Q E s := by
  refine callType_new F.called_enumerate (by decide) (F.typeCall_enumerate_1 _) (F.newCall_enumerate_1 _) (fun obj => F.args_object_init_2 obj _) F.entry_enumerate_new (enum_new1 B) ⟨g, ?_⟩
  have sz : (s.heap.push o).objs.size = s.heap.objs.size + 1 := Heap.size_push ..
  show _ ∧ _
  rw [sz]
  have ie : IsEnum ((s.heap.push o).push { cls := .type "enumerate", data := .fields #[.none, .bool false, .ref s.heap.objs.size, rawInt 0, .none, .none] }) (s.heap.objs.size + 1) s.heap.objs.size 0 .none := by
    have q := Heap.get?_push_size (s.heap.push o) (o := { cls := .type "enumerate", data := .fields #[.none, .bool false, .ref s.heap.objs.size, rawInt 0, .none, .none] }) rfl
    rw [sz] at q; exact q
  exact ⟨⟨_, ie, rfl⟩, k _ ie (Heap.get?_push_of_some _ (Heap.get?_push_size _ B.free)) fun b o x => Heap.get?_push_of_some _ (Heap.get?_push_of_some _ x)⟩
open L2 in
/-- the tuple at a as it stands, each item in a new pair -/
def IteT (K : PySem.W.Frag) (a : Addr) : L2.It :=
  ⟨fun i H => ∃ (xs : List V) (x : V), SqT K H a xs ∧ xs[i]? = some x, fun i H v H' => ∃ p x, v = .ref p ∧ H p = none ∧ H' = upd H p (.tup [.int (i : Nat), x]) ∧ ∀ xs, SqT K H a xs → xs[i]? = some x, fun i H => ∃ xs : List V, SqT K H a xs ∧ xs.length = i⟩
open L2 in
theorem enumT_turn {P : Program} {w : World} {K : PySem.W.Frag} {es : List Expr} {kk : Nat} {tp : Pos} (a e it : Addr) :
    Turn P w K (.Tuple es kk tp) (IteT K a) [e, it] e (fun i h => (∃ old, IsEnum h e it ((i : Nat) : Int) old) ∧ h.IsTupleIter it a i ∧ e ≠ it) where
  mem := List.mem_cons_self
  obj := fun i h ⟨⟨old, he⟩, ⟨o, ho, hc, hd⟩, _⟩ b hb => by
    rcases List.mem_cons.mp hb with rfl | hb
    · exact ⟨_, he, fun v q => nomatch q⟩
    · rw [List.mem_singleton] at hb; subst hb
      exact ⟨o, ho, fun v q => by rw [hd] at q; cases q⟩
  keep := fun i h h' ⟨⟨old, he⟩, hi, ne⟩ kp => ⟨⟨old, kp e List.mem_cons_self _ he⟩, hi.at fun o q => kp it (List.mem_cons_of_mem _ List.mem_cons_self) o q, ne⟩
  item := by
    rintro X rfl rfl rfl cm i pins s σ H E I fr ⟨⟨old, he⟩, hit, ne⟩ ⟨xs, x, hq, hx⟩
    obtain ⟨its, rv, tp1, hz⟩ := I.tuple hq
    obtain ⟨u, hu, ru⟩ := rv.get hx
    have tup : s.heap.IsTuple a its.toArray := tp1
    have a_it : a ≠ it := by
      rintro rfl
      obtain ⟨o1, g1, c1, _⟩ := tup
      obtain ⟨o2, g2, c2, _⟩ := hit
      rw [g1] at g2; cases g2; rw [c1] at c2; exact absurd c2 (by simp)
    have a_e : e ≠ a := by
      rintro rfl
      obtain ⟨o1, g1, c1, _⟩ := tup
      rw [he] at g1; cases g1; exact absurd c1 (by simp)
    have hl : i < its.toArray.size := by
      have := (List.getElem?_eq_some_iff.mp hu).1
      simpa using this
    have e_lt : e < s.heap.objs.size := Heap.lt_size he
    have it_lt : it < s.heap.objs.size := by obtain ⟨_, q, _⟩ := hit; exact Heap.lt_size q
    refine wpAny_pyNext_enum_itemD (Draws.tuple (A := X.A.in1) (I.ok.hd cm) it a a_it its.toArray) he ⟨hit, tup⟩ hl ne (by simp [ne, a_e]) fun y h1 tk hy out st2 new sz kp => ?_
    have yu : y = u := by
      have q : its.toArray[i]? = some y := hy
      have q2 : its.toArray[i]? = some u := by simpa using hu
      rw [q] at q2; exact Option.some.inj q2
    subst yu
    refine ⟨_, rfl, wpAny_letOwnedTupleGo_enum (s := { s with heap := h1, toks := tk + 1 }) out fun h2 e2 sb => ?_⟩
    have at2 := (sb.2 _ (Nat.ne_of_gt e_lt)).trans new
    have ok : ObjOk X.prog X.w (upd H s.heap.objs.size (.tup [.int (i : Nat), x])) h2 s.heap.objs.size (.tup [.int (i : Nat), x]) :=
      ⟨by show 2 ≤ sizeLine; decide, [.int i tk, y], .cons ⟨_, rfl⟩ (.cons ru .nil), _, at2, rfl, _, rfl⟩
    have J := I.turnedNew (ch := [e, it]) (t' := tk + 1) (fun b ob hb q => (sb.2 b (fun z => hb (by simp [z]))).trans (kp b ob (fun z => hb (by simp [z])) (fun z => hb (by simp [z])) q)) fr (Nat.le_refl _) ok
    refine ⟨.ref s.heap.objs.size, _, J, rfl, ⟨_, x, rfl, I.hok.fresh (Nat.le_refl _), rfl, fun ys hy2 => ?_⟩, ⟨⟨y, ?_⟩, st2.1.at fun o q => (sb.2 it (Ne.symm ne)).trans q, ne⟩, fun b hb => ?_⟩
    · rw [I.tuple_inj hy2 hq]; exact hx
    · rw [show ((i + 1 : Nat) : Int) = (i : Int) + 1 by omega]; exact e2
    · have lt : b < s.heap.objs.size := by
        rcases List.mem_cons.mp hb with rfl | hb
        · exact e_lt
        · rw [List.mem_singleton] at hb; subst hb; exact it_lt
      rw [upd_ne (Nat.ne_of_lt lt)]
      exact (fr b hb).1
  done := by
    rintro X rfl rfl rfl cm i pins s σ H E I fr ⟨⟨old, he⟩, hit, ne⟩ ⟨xs, hq, hx⟩
    obtain ⟨its, rv, tp1, hz⟩ := I.tuple hq
    have tup : s.heap.IsTuple a its.toArray := tp1
    have a_it : a ≠ it := by
      rintro rfl
      obtain ⟨o1, g1, c1, _⟩ := tup
      obtain ⟨o2, g2, c2, _⟩ := hit
      rw [g1] at g2; cases g2; rw [c1] at c2; exact absurd c2 (by simp)
    have n_i : its.toArray.size = i := by
      have := rv.length
      rw [List.size_toArray]; omega
    obtain ⟨f0, f1, f2, f3, f4, f5⟩ := fr it (List.mem_cons_of_mem _ List.mem_cons_self)
    exact wpAny_pyNext_enum_endD (Draws.tuple (A := X.A.in1) (I.ok.hd cm) it a a_it its.toArray) he ⟨n_i ▸ hit, tup⟩ fun h1 eb => ⟨rfl, I.turned (t' := s.toks) (fun b o hb q => eb b o hb q) f0 f1 f3 f4 f5⟩
  self := fun A i s Q E ⟨⟨_, he⟩, _⟩ k => wpAny_pyIter_enum he k
open L2 in
theorem pi_enumT {X : Cx} {e : Expr} {ta : TA} {p pos tp : Pos} {es : List Expr} {kk : Nat} (hg : Gl X "enumerate") (hm : X.mg "enumerate" = none) (ha : PA X [e] ta) (hs : starEach [e] X.env = [(false, eval e X.env)]) :
    PI X (.Tuple es kk tp) (.Call (.Name "enumerate" p) [e] [] pos) (fun σ H R => ta σ H fun vs H1 => ∃ a xs, vs = [.ref a] ∧ SqT X.K H1 a xs ∧ R (IteT X.K a) H1) := by
  refine ⟨fun pins s σ H R I h => Call_ (ld_blt I hg hm boot_enumerate (PyProof.Rows.callWith_type1 (thn (ha.run pos pins s σ H _ I h) ?_) hs rfl))⟩
  rintro us s1 ⟨vs, H1, J, r1, a, xs, rfl, hq, q⟩
  cases r1 with
  | cons r rr =>
    cases rr
    cases r
    obtain ⟨its, rv, tp1, hz⟩ := J.tuple hq
    have tup : s1.heap.IsTuple a its.toArray := tp1
    refine call_enum1 (begins_tuple a its.toArray) tup fun h' ie it kp => wpAny_pyIter_enum ie ?_
    have J2 : Inv X pins σ H1 { s1 with heap := h' } := J.kept (t' := s1.toks) kp
    refine ⟨s1.heap.objs.size + 1, [s1.heap.objs.size + 1, s1.heap.objs.size], _, _, H1, rfl, J2, enumT_turn a (s1.heap.objs.size + 1) s1.heap.objs.size, ⟨⟨.none, ie⟩, ⟨_, it, rfl, rfl⟩, Nat.succ_ne_self _⟩, fun b hb => ?_, q⟩
    have le : s1.heap.objs.size ≤ b := by
      rcases List.mem_cons.mp hb with rfl | hb
      · exact Nat.le_succ _
      · rw [List.mem_singleton] at hb; exact Nat.le_of_eq hb.symm
    exact J.fpOk le (J.hok.fresh le)
end FF

/-! FFEnum2: enumerate, reckoned. -/
namespace FF
open PySem PySem.Spec PyProof.Rows L2
theorem enum_get {xs : List D} {i : Nat} {d : D} (e : (enumL xs)[i]? = some d) : ∃ x, xs[i]? = some x ∧ d = .tup [.int (i : Nat), x] := by
  unfold enumL at e
  rw [List.getElem?_map, List.getElem?_zipIdx] at e
  cases q : xs[i]? with
  | none => rw [q] at e; cases e
  | some x => rw [q] at e; simp at e; exact ⟨x, rfl, e.symm⟩
theorem enumL_len (xs : List D) : (enumL xs).length = xs.length := by unfold enumL; simp
theorem iw_enum {K : PySem.W.Frag} {Fr ρ0 : List Addr} {H0 : Hp} {a : Addr} {xs : List D} {w : Watch} {J : L2.It} (T : Hp → Addr → List V → Prop)
    (hgo : ∀ i H xs x, T H a xs → xs[i]? = some x → J.go i H) (hst : ∀ H xs, T H a xs → J.stop xs.length H)
    (hy : ∀ i H v H', J.yld i H v H' → ∃ p x, v = .ref p ∧ H p = none ∧ H' = upd H p (.tup [.int (i : Nat), x]) ∧ ∀ xs, T H a xs → xs[i]? = some x)
    (at1 : ∀ Fr' ρ H h, (∀ a ∈ Fr', a ∈ Fr ∨ H0 a = none) → Ext ρ0 H0 ρ H → HR K Fr' ρ h H → stands h w = true → ∃ vs, T H a vs ∧ RDs K Fr' ρ H xs vs) : IW K Fr J ρ0 H0 (enumL xs) w := by
  intro Fr' i ρ H h hf x r st
  obtain ⟨vs, s1, q1⟩ := at1 Fr' ρ H h hf x r st
  refine ⟨fun d e => ?_, fun e => ?_⟩
  · obtain ⟨d1, e1, rfl⟩ := enum_get e
    obtain ⟨v, f1, k1⟩ := q1.get e1
    refine ⟨hgo i H vs v s1 f1, fun z H' yl => ?_⟩
    obtain ⟨p, x1, rfl, hp, rfl, g1⟩ := hy _ _ _ _ yl
    have z1 := g1 vs s1
    rw [f1] at z1; cases z1
    have xe : Ext ρ H ρ (upd H p (.tup [.int (i : Nat), v])) := ext_new hp
    refine ⟨xe, r.new hp, ?_, fun a o e => by rw [upd_ne (ne_of_none e hp)]; exact e⟩
    unfold RD
    exact ⟨p, _, rfl, upd_same, (r.fresh hp).1, .cons (by unfold RD; rfl) (.cons (RD.mono xe _ _ k1) .nil)⟩
  · rw [enumL_len, q1.length] at e
    rw [e]
    exact hst H vs s1
end FF

/-! FFEnum3: enumerate, the rule. -/
namespace FF
open PySem PySem.Spec PyProof.Rows L2
section
variable {X : Cx} {pos : Pos}
theorem enD_seq {d : D} {h : Hq} {p : Its'} (e : enD d h = some p) : ∃ xs, itemsOf h d = some xs ∧ p = (enumL xs, watchOf d xs, h) := by
  unfold enD at e
  split at e
  · cases e
  · rename_i ns
    cases q : itD d h with
    | none => rw [q] at e; cases e
    | some r =>
      rw [q] at e
      obtain ⟨xs, e1, rfl⟩ := itD_seq q (by simpa using ns)
      exact ⟨xs, e1, (Option.some.inj e).symm⟩
theorem si_enum {W : EK X.K} {elts : List Expr} {kk : Nat} {tpos p : Pos} {a : Expr} {fa : Env' → Hq → R (D × Hq)} (hg : Gl X "enumerate") (hm : X.mg "enumerate" = none) (ha : SE X W a fa) (hs : starEach [a] X.env = [(false, eval a X.env)]) :
    SI X W (.Tuple elts kk tpos) (.Call (.Name "enumerate" p) [a] [] pos) (fun s h => (fa s h).bind fun p => lift (enD p.1 p.2)) := by
  have pa := pa_cons ha pa_nil (by rw [hs]; rfl)
  refine PI.imp (PI.or (pi_enum hg hm pa hs) (pi_enumT hg hm pa hs)) fun σ H Rr ⟨Fr, ρ, s, h, r, sr, ok⟩ => ?_
  have ok : okR _ _ ((fa s h).bind fun p => lift (enD p.1 p.2)) := ok
  cases ef : fa s h with
  | stuck => rw [ef] at ok; exact ok.elim
  | exc e q =>
    refine .inl ⟨Fr, ρ, s, h, r, sr, ?_⟩
    show okR _ _ (fa s h)
    rw [ef] at ok ⊢
    exact ok
  | ok p =>
    cases hx : isTupD p.1 with
    | true =>
      refine .inr ⟨Fr, ρ, s, h, r, sr, ?_⟩
      show okR _ _ (fa s h)
      rw [ef] at ok ⊢
      intro v ρ1 H1 x1 r1 d1
      obtain ⟨y, e, k⟩ := okR_lift (show okR _ _ (lift (enD p.1 p.2)) from ok)
      obtain ⟨xs, e1, rfl⟩ := enD_seq e
      obtain ⟨a1, rfl, ⟨v1, s1⟩, l1⟩ := tup_later d1 e1 hx
      refine ⟨a1, v1, rfl, s1, k _ ρ1 H1 x1 r1 ?_⟩
      exact iw_enum (fun H a vs => SqT X.K H a vs) (fun i H xs x q1 q2 => ⟨xs, x, q1, q2⟩) (fun H xs q => ⟨xs, q, rfl⟩) (fun _ _ _ _ q => q) (fun Fr' ρ H h hf x r _ => l1 Fr' ρ H h hf x r)
    | false =>
      refine .inl ⟨Fr, ρ, s, h, r, sr, ?_⟩
      show okR _ _ (fa s h)
      rw [ef] at ok ⊢
      intro v ρ1 H1 x1 r1 d1
      obtain ⟨y, e, k⟩ := okR_lift (show okR _ _ (lift (enD p.1 p.2)) from ok)
      obtain ⟨xs, e1, rfl⟩ := enD_seq e
      obtain ⟨a1, rfl, ⟨v1, s1⟩, l1⟩ := lst_later r1 d1 e1 hx
      refine ⟨a1, v1, rfl, s1, k _ ρ1 H1 x1 r1 ?_⟩
      exact iw_enum (fun H a vs => SqL X.K H a vs) (fun i H xs x q1 q2 => ⟨xs, x, q1, q2⟩) (fun H xs q => ⟨xs, q, Nat.le_refl _⟩) (fun _ _ _ _ q => q) (fun Fr' ρ H h hf x r st => l1 _ Fr' ρ H h (fun p hp => hp) hf x r st)
theorem w_enum {W : EK X.K} {φ : Fn} {elts : List Expr} {kk : Nat} {tpos p : Pos} {a : Expr} {ca : Ex} (hg : Gl X "enumerate") (hm : X.mg "enumerate" = none) (ha : SE X W a (ev φ ca)) (hs : starEach [a] X.env = [(false, eval a X.env)]) :
    SI X W (.Tuple elts kk tpos) (.Call (.Name "enumerate" p) [a] [] pos) (evIt φ (.enum (.ex ca))) := by
  refine (funext fun s => funext fun h => ?_ : (fun s h => (ev φ ca s h).bind fun p => lift (enD p.1 p.2)) = evIt φ (.enum (.ex ca))) ▸ si_enum hg hm ha hs
  unfold evIt; rfl
end
end FF

/-! FFMore: list(range(..)), tuple(range(..)), insert. -/
namespace FF
open PySem PySem.Spec PyProof.Rows L2
section
variable {X : Cx} {pos : Pos}
theorem rng_rds {K : PySem.W.Frag} {Fr ρ : List Addr} {H : Hp} (lo hi : Int) : RDs K Fr ρ H (rangeL lo hi) (rgV lo hi) := by
  have := RDs.of_ints (K := K) (Fr := Fr) (ρ := ρ) (H := H) ((List.range (hi - lo).toNat).map fun i : Nat => lo + (i : Int))
  rw [List.map_map, List.map_map] at this
  exact this
theorem rng_len (lo hi : Int) : (rangeL lo hi).length = (hi - lo).toNat := by unfold rangeL; rw [List.length_map, List.length_range]
theorem se_lrng1 {W : EK X.K} {e : Expr} {p p2 pos2 : Pos} {fe : Env' → Hq → R (D × Hq)} {live : Bool} (hc : X.calm = true) (hg : Gl X "list") (hm : X.mg "list" = none) (hg2 : Gl X "range") (hm2 : X.mg "range" = none) (he : SE X W e fe)
    (hs : starEach [e] X.env = (false, eval e X.env) :: starEach [] X.env) (hs2 : starEach [.Call (.Name "range" p2) [e] [] pos2] X.env = (false, eval (.Call (.Name "range" p2) [e] [] pos2) X.env) :: starEach [] X.env) :
    SE X W (.Call (.Name "list" p) [.Call (.Name "range" p2) [e] [] pos2] [] pos) (fun s h => ((fe s h).bind fun q => lift (rng1D q.1 q.2)).bind fun q => lift (mkL live q.1 q.2.2)) := by
  refine PE.imp (pe_listRg hc hg hm (prg_1 hg2 hm2 he hs) hs2) fun σ H Q ⟨Fr, ρ, s, h, r, sr, ok⟩ => ?_
  refine ⟨Fr, ρ, s, h, r, sr, (okR_bind.mp (okR_bind.mp ok)).mono (fun q ok1 v ρ1 H1 x1 r1 d1 => ?_) fun _ _ z => z⟩
  obtain ⟨y, e1, ok2⟩ := okR_lift ok1
  obtain ⟨z, e2, k⟩ := okR_lift ok2
  unfold rng1D at e1
  split at e1
  · rename_i j ej
    split at e1
    · rename_i hj
      cases e1
      rw [ej] at d1
      have hl := mkL_len e2
      rw [rng_len] at hl
      have k1 : Kont X.K Fr ρ1 H1 Q z := fun v ρ' H' x r d => k v ρ' H' (x1.step r1 x) r d
      refine ⟨j, rd_int.mp d1, ⟨by decide, by decide, hj.1, hj.2, by rw [sizeLine_eq] at hl; omega⟩, fun p hp => Kont.lst k1 e2 r1 (rng_rds 0 j) hp⟩
    · cases e1
  · cases e1
theorem w_lrng1 {W : EK X.K} {φ : Fn} {e : Expr} {p p2 pos2 : Pos} {ce : Ex} {live : Bool} (hc : X.calm = true) (hg : Gl X "list") (hm : X.mg "list" = none) (hg2 : Gl X "range") (hm2 : X.mg "range" = none) (he : SE X W e (ev φ ce))
    (hs : starEach [e] X.env = (false, eval e X.env) :: starEach [] X.env) (hs2 : starEach [.Call (.Name "range" p2) [e] [] pos2] X.env = (false, eval (.Call (.Name "range" p2) [e] [] pos2) X.env) :: starEach [] X.env) :
    SE X W (.Call (.Name "list" p) [.Call (.Name "range" p2) [e] [] pos2] [] pos) (ev φ (.lrng live (.range1 ce))) := by
  refine (funext fun s => funext fun h => ?_ : (fun s h => ((ev φ ce s h).bind fun q => lift (rng1D q.1 q.2)).bind fun q => lift (mkL live q.1 q.2.2)) = ev φ (.lrng live (.range1 ce))) ▸ se_lrng1 hc hg hm hg2 hm2 he hs hs2
  conv => rhs; unfold ev evIt
end
end FF

/-! FFNew: names of the module, isinstance, {}, sorted(set(..)). -/
namespace FF
open PySem PySem.Spec PyProof.Rows L2
section
variable {X : Cx} {W : EK X.K} {φ : Fn} {pos : Pos}
/-- a whole number of the module's -/
def GI (mg : Str → Option Value) (x : Str) (i : Int) : Prop := ∃ t, mg x = some (.int i t)
/-- a tuple of whole numbers of the module's -/
def GK (K : PySem.W.Frag) (mg : Str → Option Value) (x : Str) (ns : List Int) : Prop := ∃ a, mg x = some (.ref a) ∧ KTup K a (ns.map V.int) ∧ ∃ o : Obj, K.lookup a = some o ∧ o.cls = .type "tuple" ∧ o.dict = none
theorem w_globI {x : Str} {i : Int} (hg : Gl X x) (h : GI X.mg x i) (hd : (x == ("__debug__" : Str)) = false) : SE X W (.Name x pos) (ev φ (.glob x (.int i))) := by
  obtain ⟨t, h⟩ := h
  refine (funext fun s => funext fun h => by conv => rhs; unfold ev : (fun s h => R.ok (D.int i, h)) = ev φ (.glob x (.int i))) ▸ ?_
  exact se_const (pe_glob hg h (show RelV (.int i) (.int i t) from ⟨t, rfl⟩) hd) fun _ _ _ => rd_int.mpr rfl
theorem w_globK {x : Str} {ns : List Int} (hg : Gl X x) (h : GK X.K X.mg x ns) (hd : (x == ("__debug__" : Str)) = false) : SE X W (.Name x pos) (ev φ (.glob x (.ktp ns))) := by
  obtain ⟨a, h, k⟩ := h
  refine (funext fun s => funext fun h => by conv => rhs; unfold ev : (fun s h => R.ok (D.ktp ns, h)) = ev φ (.glob x (.ktp ns))) ▸ ?_
  exact se_const (pe_glob (v := .ref a) hg h rfl hd) fun _ _ _ => by unfold RD; exact ⟨a, rfl, .inr k⟩
theorem w_is {f : Bi} (hf : is4 f = true) {live : Bool} {e : Expr} {ty : Str} {p p2 : Pos} {ce : Ex} (hg : Gl X "isinstance") (hm : X.mg "isinstance" = none) (hg2 : Gl X ty) (hm2 : X.mg ty = none) (hv2 : bootBuiltins ty = some (.type (bt f))) (hn2 : ty ≠ "__name__") (hd2 : (ty == ("__debug__" : Str)) = false)
    (he : SE X W e (ev φ ce)) (h1 : starEach [e, .Name ty p2] X.env = (false, eval e X.env) :: starEach [.Name ty p2] X.env) (h2 : starEach [.Name ty p2] X.env = (false, eval (.Name ty p2) X.env) :: starEach [] X.env) (hpl : (backTo pos (starEach [.Name ty p2] X.env)).any (·.1) = false) :
    SE X W (.Call (.Name "isinstance" p) [e, .Name ty p2] [] pos) (ev φ (.bi f live (.cons ce .nil))) := by
  refine (funext fun s => funext fun h => ?_ : (fun s h => ((ev φ ce s h).bind fun p => R.ok ([p.1], p.2)).bind fun q => lift (un1 (isD f) q.1 q.2)) = ev φ (.bi f live (.cons ce .nil))) ▸ se_is hf hg hm hg2 hm2 hv2 hn2 hd2 he h1 h2 hpl
  conv => rhs; unfold ev evs evs
  cases ev φ ce s h with
  | ok q => cases f <;> first | (cases hf; done) | rfl
  | exc e h => rfl
  | stuck => rfl
/-! sorted(set(t)) -/
end
end FF

/-! FFSort: sorted lists of tuples, the empty one among them. -/
namespace FF
open PySem PySem.Spec PyProof.Rows L2 PySem.W PySem.SeqAt
section
variable {prog : Program} {w : World} {A : Around} {E : Value → Shared → Prop} {s : Shared}
end
/-! ### by the layer -/
section
variable {X : Cx}
end
end FF

/-! FFLam: sorted(xs, key=lambda own: -book[own][1]). -/
namespace FF
open PySem PySem.Spec PyProof.Rows L2 PySem.W PySem.SeqAt
/-- the key's text -/
@[reducible] def keyBody (bk own : Str) (j : Nat) (p1 p2 p3 p4 p5 p6 : Pos) : Expr := .UnaryOp .USub (.Subscript (.Subscript (.Name bk p1) (.Name own p2) p3) (.Constant (.int 1) j p4) p5) p6
section
variable {prog : Program} {w : World} {A : Around} {E : Value → Shared → Prop} {s : Shared}
end
/-! ### by the core -/
/-- the lambda's names: its own one, the captured one -/
structure LamK (scope : Scope) (ow bk : Str) : Prop where
  kind : scope.kind = .function
  co : scope.isCoroutine = false
  gen : scope.isGenerator = false
  cell : ∀ y ∈ scope.names, y.2 ≠ .cell
  own' : scope.names.lookup ow = some .local
  bk' : scope.names.lookup bk = some .free
  free : ∀ y ∈ scope.names, y.2 = .free → y.1 = bk
section
variable {X : Cx} {W : EK X.K} {φ : Fn} {pos : Pos}
end
/-! ### the defs that make lambdas -/
structure LamCtx (K : PySem.W.Frag) (mg : Str → Option Value) (base : Heap) (x : Str) : Prop where
  ex : ∃ c P, lamTabs K = [(c, P, x ++ ".<locals>." ++ "<lambda>")] ∧ LamX.TabB base mg c P
end FF

/-! FFTac: the walk, by the text and the core side by side. -/
namespace FF
open PySem PySem.Spec PyProof.Rows L2
section
variable {X : Cx} {W : EK X.K} {φ : Fn} {pos : Pos}
theorem cb_max2 (hc : X.calm = true) : CallR X (.builtin "max") (rDs X.K (biD .max2 false)) := cb_i2 (call_max2 hc)
theorem cb_min2 (hc : X.calm = true) : CallR X (.builtin "min") (rDs X.K (biD .min2 false)) := cb_i2 (call_min2 hc)
theorem un_of {k n : Nat} {A : Around} (r : Room k A) (h : n ≤ 200) : A.units + n < cLine := by have := r.un; omega
/-- a def of the text, as the top leaves it -/
structure DefIn (K : PySem.W.Frag) (mg : Str → Option Value) (st : Stmt) (x : Str) : Prop where
  ex : ∃ (f : Addr) (oc : Value) (od : Option Addr) (kV doc pm : Value) (an : Option Addr) (cdv ct : Value) (osl : Array (Option Value)),
    K.lookup f = some ⟨oc, od, .func (PySem.W.fnOf x x (defArgs st) (defBody st) (defScope st) .none kV doc pm an cdv ct), osl⟩ ∧ PySem.W.codeIn K cdv x = true ∧ mg x = some (.ref f) ∧ PySem.W.keepIn K (.ref f) = true
theorem cal_zero {P : Program} {w : World} {K : PySem.W.Frag} {mg : Str → Option Value} {base : Heap} {st : Stmt} {x : Str} {ps : List Str} {tbl : List (Nat × Def)} {id : Nat} (D : DefIn K mg st x) : Cal P w K mg base 0 (run tbl 0 id) st x ps := by
  obtain ⟨f, oc, od, kV, doc, pm, an, cdv, ct, osl, _, _, hm, hk⟩ := D.ex
  refine ⟨f, kV, doc, pm, an, cdv, ct, ⟨fun vs H Q ⟨_, _, _, _, _, _, ok⟩ => ok.elim, fun _ _ _ _ _ _ _ _ _ _ _ _ _ ⟨_, _, _, _, _, _, ok⟩ => ok.elim⟩, hm, hk⟩
theorem cal_succ {P : Program} {w : World} {K : PySem.W.Frag} {mg : Str → Option Value} {base : Heap} {st : Stmt} {x : Str} {ps N : List Str} {φ : Fn} {d : Def} {k : Nat} (D : DefIn K mg st x) (S : FnScope N ps (defScope st)) (hn : d.names.length = N.length) (hp : d.nps = ps.length)
    (body : ∀ (f : Addr) (cdv : Value) (A : Around) (outer : List Env) (s : Shared) (H : Hp), A.guards = some [] → Room k (A.deeper (envOfC x (defScope st) s.heap.objs.size f cdv)) → SB (Xb P w K mg base N x (defScope st) f cdv A outer s H) (EK.none K) (defBody st) (exB φ d.body)) :
    Cal P w K mg base (k + 1) (runDef φ d) st x ps := by
  obtain ⟨f, oc, od, kV, doc, pm, an, cdv, ct, osl, lk, ci, hm, hk⟩ := D.ex
  exact cal_of lk ci hm hk S hn hp (body f cdv)
theorem fg_def {P : Program} {w : World} {K : PySem.W.Frag} {mg : Str → Option Value} {base : Heap} {st : Stmt} {x : Str} {ps N : List Str} {φ : Fn} {d : Def} {k : Nat} {f : Addr} {oc : Value} {od : Option Addr} {kV doc pm : Value} {an : Option Addr} {cdv ct : Value} {osl : Array (Option Value)}
    (lk : K.lookup f = some ⟨oc, od, .func (PySem.W.fnOf x x (defArgs st) (defBody st) (defScope st) .none kV doc pm an cdv ct), osl⟩) (ci : PySem.W.codeIn K cdv x = true) (S : FnScope N ps (defScope st)) (hn : d.names.length = N.length) (hp : d.nps = ps.length)
    (body : ∀ (f : Addr) (cdv : Value) (A : Around) (outer : List Env) (s : Shared) (H : Hp), A.guards = some [] → Room k (A.deeper (envOfC x (defScope st) s.heap.objs.size f cdv)) → SB (Xb P w K mg base N x (defScope st) f cdv A outer s H) (EK.none K) (defBody st) (exB φ d.body)) :
    Fg P w K mg base (k + 1) f (PySem.W.fnOf x x (defArgs st) (defBody st) (defScope st) .none kV doc pm an cdv ct) ps (spF K (runDef φ d)) := by
  have hpl : ps.length ≤ N.length := by have := congrArg List.length S.pre; rw [List.length_take] at this; omega
  refine fg_of lk ci S (fun vs H Q h => ?_) (fun A outer s H vs Q hgd hr h => ?_)
  · rw [← hp]; exact (body_ok h hn (by rw [hp]; exact hpl)).1
  · exact ⟨_, body f cdv A outer s H hgd hr, (body_ok h hn (by rw [hp]; exact hpl)).2⟩
theorem ar1 {α β : Type} {B : List α → Prop} {x0 : β} (h : ∀ u0, B [u0]) : ∀ us : List α, us.length = [x0].length → B us := fun us hl => match us, hl with | [u0], _ => h u0
theorem ar2 {α β : Type} {B : List α → Prop} {x0 x1 : β} (h : ∀ u0 u1, B [u0, u1]) : ∀ us : List α, us.length = [x0, x1].length → B us := fun us hl => match us, hl with | [u0, u1], _ => h u0 u1
theorem ar3 {α β : Type} {B : List α → Prop} {x0 x1 x2 : β} (h : ∀ u0 u1 u2, B [u0, u1, u2]) : ∀ us : List α, us.length = [x0, x1, x2].length → B us := fun us hl => match us, hl with | [u0, u1, u2], _ => h u0 u1 u2
theorem perm_le {α : Type} (ws : List α) : ∀ l : List Nat, (perm l ws).length ≤ l.length
  | [] => Nat.le_refl _
  | i :: l => by
    have ih := perm_le ws l
    unfold perm at ih ⊢
    cases e : ws[i]? with
    | none => rw [List.filterMap_cons_none e]; exact Nat.le_succ_of_le ih
    | some v => rw [List.filterMap_cons_some e]; exact Nat.succ_le_succ ih
theorem perm_lt {α : Type} (ws : List α) : ∀ l : List Nat, (perm l ws).length = l.length → ∀ i ∈ l, i < ws.length
  | [], _, i, hi => by cases hi
  | j :: l, h, i, hi => by
    have h1 := perm_le ws l
    unfold perm at h h1
    cases e : ws[j]? with
    | none =>
      rw [List.filterMap_cons_none e] at h
      exact absurd (Nat.le_trans (Nat.le_of_eq h.symm) h1) (Nat.not_succ_le_self _)
    | some v =>
      rw [List.filterMap_cons_some e, List.length_cons, List.length_cons] at h
      rcases List.mem_cons.mp hi with rfl | hi
      · exact (List.getElem?_eq_some_iff.mp e).1
      · exact perm_lt ws l (Nat.succ.inj h) i hi
theorem kar1 {α β : Type} {B : List α → Prop} {l : List Nat} {xs : List β} (hx : xs.length = l.length) (hm : 0 ∈ l) (h : ∀ u0 (r : List α), B (u0 :: r)) : ∀ ws : List α, (perm l ws).length = xs.length → B ws := fun ws hl => by
  have := perm_lt ws l (hl.trans hx) 0 hm
  match ws, this with
  | u0 :: r, _ => exact h u0 r
def kwN (kws : List Keyword) : List Str := kws.filterMap fun k => k.arg
theorem w_callN {k : Nat} {st : Stmt} {ps : List Str} {x : Str} {p : Pos} {kws : List Keyword} {l : List Nat} {id : Nat} {cs : Exs} (C : Cal X.prog X.w X.K X.mg X.base k (φ id) st x ps) (hgd : X.A.guards = some []) (hr : Room k X.A) (hg : Gl X x)
    (hb : ∀ (kV doc pm : Value) (an : Option Addr) (cdv ct : Value) (ws : List Value), (perm l ws).length = ps.length → bindArgs (PySem.W.fnOf x x (defArgs st) (defBody st) (defScope st) .none kV doc pm an cdv ct) ⟨[], (kwN kws).zip ws⟩ = pure (ps.zip (perm l ws)))
    (ha : SK X (EK.none X.K) kws (evs φ cs)) (hdb : (x == ("__debug__" : Str)) = false)
    (hall : (backToKw pos (keywordEach kws X.env)).all (·.1.isSome) = true) (hks : (backToKw pos (keywordEach kws X.env)).filterMap (·.1) = kwN kws)
    (hpl : ((backTo pos (starEach [] X.env)).any (·.1) || (backToKw pos (keywordEach kws X.env)).any (·.1.isNone)) = false) :
    SE X (EK.none X.K) (.Call (.Name x p) [] kws pos) (ev φ (.callK id l cs)) := w_callK C hgd hr hg hb ha hdb hall hks hpl
end
end FF

/-! FFExc: exceptions through calls. -/
namespace FF
open PySem PySem.Spec PyProof.Rows L2
/-- how an exception of ours lies in the model -/
def RX (K : PySem.W.Frag) (mg : Str → Option Value) (Fr ρ : List Addr) (H : Hp) (e : D) (cls : Value) (d : Option Addr) : Prop :=
  ∃ c ds C, e = .exn c ds ∧ mg (Str.ofString c) = some (.ref C) ∧ cls = .ref C ∧
    ((ds = [] ∧ d = none) ∨ ∃ x dd v, ds = [x] ∧ d = some dd ∧ H dd = some (.xd [(fldOf c, v)]) ∧ dd ∉ Fr ∧ RD K Fr ρ H x v)
/-- what is wished of an exception, at any slots -/
def EKW (K : PySem.W.Frag) (mg : Str → Option Value) (n : Nat) (W : WX) : EK K :=
  ⟨fun Fr ρ H _ e h => ∀ σ' ρ' H' cls d, List.length σ' = n → Ext ρ H ρ' H' → HR K Fr ρ' h H' → RX K mg Fr ρ' H' e cls d → W cls d σ' H',
   fun x r p σ' ρ' H' cls d hl x2 r2 rx => p σ' ρ' H' cls d hl (x.step r x2) r2 rx⟩
theorem EKW.flat {K : PySem.W.Frag} {mg : Str → Option Value} {n : Nat} {W : WX} : (EKW K mg n W).flat := fun _ _ _ _ _ _ _ h => h
abbrev SpX := List V → Hp → VK → XK → Prop
/-- the promise of a def that may raise -/
structure FgX (P : Program) (w : World) (K : PySem.W.Frag) (mg : Str → Option Value) (base : Heap) (k : Nat) (f : Addr) (fd : FuncData) (ps : List Str) (sp : SpX) : Prop where
  many : ∀ vs H Q E, sp vs H Q E → vs.length = ps.length
  goes : ∀ (A : Around) (outer : List Env) (s : Shared) (H : Hp) (args : Args) (us : List Value) (vs : List V) (Q : VK) (E : XK),
    A.guards = some [] → Room k A → Env0 P w K mg base A outer s H → BindsTo s fd args (ps.zip us) → Vals vs us → sp vs H Q E →
    codeAny (model P w) A (.call (.ref f) args) (CR (L2.CX P w) outer P w H s Q E) s
/-- the context of the body of a def that may raise -/
abbrev Xe (P : Program) (w : World) (K : PySem.W.Frag) (mg : Str → Option Value) (base : Heap) (N : List Str) (qual : Str) (sc : Scope) (f : Addr) (cd : Value) (A : Around) (outer : List Env) (s : Shared) (H : Hp) (E : XK) : Cx :=
  cxOf (L2.CX P w) P w K mg base N qual sc f cd A outer s H E
section
variable {P : Program} {w : World} {K : PySem.W.Frag} {mg : Str → Option Value} {base : Heap}
end
/-! ### calls -/
section
variable {X : Cx} {k : Nat} {f : Addr} {fd : FuncData} {ps : List Str} {sp : SpX} {x : Str} {p pos : Pos} {e : Expr} {es : List Expr} {t : TA} {W : WX}
/-- what a def promises that may raise -/
def spX (K : PySem.W.Frag) (mg : Str → Option Value) (f : List D → Hq → R (D × Hq)) : SpX := fun vs H Q E => ∃ Fr ρ h ds, HR K Fr ρ h H ∧ RDs K Fr ρ H ds vs ∧
  okR (Kont K Fr ρ H Q) (fun e h' => ∀ ρ' H' cls d, Ext ρ H ρ' H' → HR K Fr ρ' h' H' → RX K mg Fr ρ' H' e cls d → E cls d H') (f ds h)
structure CalX (P : Program) (w : World) (K : PySem.W.Frag) (mg : Str → Option Value) (base : Heap) (k : Nat) (fx : List D → Hq → R (D × Hq)) (st : Stmt) (x : Str) (ps : List Str) : Prop where
  ex : ∃ (f : Addr) (kV doc pm : Value) (an : Option Addr) (cdv ct : Value), FgX P w K mg base k f (PySem.W.fnOf x x (defArgs st) (defBody st) (defScope st) .none kV doc pm an cdv ct) ps (spX K mg fx) ∧ mg x = some (.ref f) ∧ PySem.W.keepIn K (.ref f) = true
end
/-! ### a call that never raises, among those that may -/
section
variable {X : Cx} {k : Nat} {fx : List D → Hq → R (D × Hq)} {st : Stmt} {ps : List Str} {x : Str} {p pos : Pos} {e : Expr} {es : List Expr} {W : EK X.K}
end
mutual
theorem thaw_pureE {n : Nat} {g : List D → Option (List D)} {h : Hq} : ∀ d : D, d.pure = true → D.thaw n g h d = some d
  | .non, _ => by unfold D.thaw; rfl
  | .bl _, _ => by unfold D.thaw; rfl
  | .int _, _ => by unfold D.thaw; rfl
  | .str _, _ => by unfold D.thaw; rfl
  | .tup ds, q => by unfold D.pure at q; unfold D.thaw; rw [thaws_pureE ds q]; rfl
  | .lst ds, q => by unfold D.pure at q; unfold D.thaw; rw [thaws_pureE ds q]; rfl
  | .scr _, _ => by unfold D.thaw; rfl
  | .ktp _, _ => by unfold D.thaw; rfl
  | .kpp _, _ => by unfold D.thaw; rfl
  | .ref _, q => by unfold D.pure at q; cases q
  | .dct ds, q => by unfold D.pure at q; unfold D.thaw; rw [thaws_pureE ds q]; rfl
  | .exn _ ds, q => by unfold D.pure at q; unfold D.thaw; rw [thaws_pureE ds q]; rfl
  | .opq _, _ => by unfold D.thaw; rfl
theorem thaws_pureE {n : Nat} {g : List D → Option (List D)} {h : Hq} : ∀ ds : List D, D.pures ds = true → D.thaws n g h ds = some ds
  | [], _ => by unfold D.thaws; rfl
  | d :: ds, q => by
    unfold D.pures at q
    rw [Bool.and_eq_true] at q
    unfold D.thaws
    rw [thaw_pureE d q.1, thaws_pureE ds q.2]
end
/-! ### defs that may raise (they change nothing of their caller's) -/
section
variable {K : PySem.W.Frag} {mg : Str → Option Value} {H : Hp}
end
end FF

/-! FFExc2: raise, try. -/
namespace FF
open PySem PySem.Spec PyProof.Rows L2
section
variable {X : Cx} {C : Addr} {bmB : List Value} {B newId initId : String}
end
end FF

/-! FFExc3: try: body, except C as e: return [tag, isinstance(e, F)]. -/
namespace FF
open PySem PySem.Spec PyProof.Rows L2
section
variable {X : Cx} {C CF : Addr} {tag n : Str} {i : Nat}
end
end FF

/-! FFExc4: rules by core form, where exceptions may leave. -/
namespace FF
open PySem PySem.Spec PyProof.Rows L2
section
variable {X : Cx} {W : EK X.K} {φ : Fn} {pos : Pos}
end
section
variable {X : Cx} {W : WX} {φ : Fn} {pos : Pos} {n : Nat}
end
end FF

/-! FFExcF: an own error with one field: its __init__ calls super().__init__ and keeps what was given. -/
namespace FF
open PySem PySem.Spec PyProof.Rows L2
section
variable {P : Program} {w : World} {M : Model} {A : Around} {E : Value → Shared → Prop} {hp : Heap} {gs : Array GenState} {dr : Drawn} {tk : Nat} {os : OsState}
variable {nm q : Str} {C N : Addr} {bs bm : List Value} {hdct : Bool} {sn : List Str} {sub : List Value} {ab : Bool} {col : Option Bool} {dd : Option Addr} {k0 k1 k2 k3 k5 : Option Value}
open PySem.W in
end
/-! ### the __init__ -/
/-- def __init__(self, f): super().__init__(f); self.f = f -/
structure InitSt (st : Stmt) (f : Str) : Prop where
  body : ∃ (p0 p1 p2 p3 p4 p5 p6 p7 p8 p9 : Pos), defBody st = [.Expr (.Call (.Attribute (.Call (.Name "super" p0) [] [] p1) "__init__" p2) [.Name f p3] [] p4) p5, .Assign [.Attribute (.Name "self" p6) f p7] (.Name f p8) p9] ∧
    (∃ pl : Env → Sem Bool, ∀ env, eval (.Call (.Attribute (.Call (.Name "super" p0) [] [] p1) "__init__" p2) [.Name f p3] [] p4) env = (do
      let ov ← attributeBase (.Call (.Name "super" p0) [] [] p1) "__init__" env (eval (.Call (.Name "super" p0) [] [] p1) env)
      standAt p2.atName
      let (g, first) ← holding [ov] (getMethod ov "__init__" (pl env))
      callWith p4 g first (backTo p4 (starEach [.Name f p3] env)) [])) ∧
    (∀ env, interactive env = false → swapsWith (.Call (.Attribute (.Call (.Name "super" p0) [] [] p1) "__init__" p2) [.Name f p3] [] p4) none p5.line env = pure false) ∧
    ∀ env, swapsWith (.Name f p8) (some (.Attribute (.Name "self" p6) f p7)) p9.line env = pure false
  arg : ∃ ar : Arg, ((defArgs st).posonlyargs ++ (defArgs st).args).head? = some ar ∧ ar.arg = "self"
  n1 : (defScope st).names.lookup ("super" : Str) = some .globalImplicit
  n2 : (defScope st).names.lookup ("__class__" : Str) = some .free
  n3 : (defScope st).names.lookup ("self" : Str) = some .local
  n4 : (defScope st).names.lookup f = some .local
  d4 : (f == ("__debug__" : Str)) = false
  ne : (("self" : Str) == f) = false
  cell : ∀ x ∈ (defScope st).names, x.2 ≠ .cell
  co : (defScope st).isCoroutine = false
  gn : (defScope st).isGenerator = false
  kd : (defScope st).kind = .function
section
open PySem.W
variable {P : Program} {w : World} {A : Around} {hp : Heap} {gs : Array GenState} {dr : Drawn} {tk : Nat} {os : OsState} {K : Frag}
end
/-- what the text says of an error class that keeps one field -/
structure FldC (P : Program) (K : PySem.W.Frag) (mg : Str → Option Value) (C : Addr) (f : Str) : Prop where
  oex : OexC K C
  ve : PySem.W.subIn K (.ref C) (.type "ValueError") = some true
  slf : PySem.W.mroIn K C (.ref C) = some true
  sup : PySem.W.ks_superIn K C C "__init__" = some (some (.builtin "ValueError.__init__"))
  thd : PySem.W.nsIn K cStatics "thirdparty.any" = some none
  mgS : mg "super" = none
  no : PySem.W.findIn K (.ref C) f = some none
  top : (P.main.scope.names.lookup ("super" : Str)).isSome = false
  init : ∃ (st : Stmt) (q : Str) (fI cc cda : Addr) (dV kV doc pm ct oc ccl cl : Value) (an od cdd cld : Option Addr) (osl ccs csl : Array (Option Value)) (vs : Array Value) (file : Str) (tf : Tok),
    InitSt st f ∧ PySem.W.findIn K (.ref C) "__init__" = some (some (.ref fI)) ∧ PySem.W.typeIn K (.ref fI) = some (.type "function") ∧
    K.lookup fI = some ⟨oc, od, .func (PySem.W.ksFn "__init__" q (defArgs st) (defBody st) (defScope st) dV kV doc pm an (.ref cda) ct cc), osl⟩ ∧ PySem.W.codeIn K (.ref cda) q = true ∧
    K.lookup cda = some ⟨ccl, cdd, .fields vs, ccs⟩ ∧ vs[2]? = some (.str file tf) ∧ ((P.main.file : Str) == file) = true ∧ K.lookup cc = some ⟨cl, cld, .cell (some (.ref C)), csl⟩ ∧
    ∀ (a : Addr) (u : Value), bindArgs (PySem.W.ksFn "__init__" q (defArgs st) (defBody st) (defScope st) dV kV doc pm an (.ref cda) ct cc) ⟨[.ref a, u], []⟩ = pure [(("self" : Str), .ref a), (f, u)]
section
variable {X : Cx}
end
end FF

/-! FFTryM: raise with a field; try with several clauses, each with its name. -/
namespace FF
open PySem PySem.Spec PyProof.Rows L2
/-! ### raise C(e) -/
section
variable {X : Cx} {C : Addr} {W : WX} {n k : Nat} {φ : Fn}
/-! ### clauses -/
/-- what a clause does: the class, the slot of its name, its suite -/
structure HandI where
  c : Value
  i : Nat
  ts : Addr → Value → Option Addr → TS
abbrev endsAt (i : Nat) (D : Ends) : Ends := { nx := fun σ' H' => D.nx (σ'.set i none) H', rt := D.rt, bk := fun σ' H' => D.bk (σ'.set i none) H', ct := fun σ' H' => D.ct (σ'.set i none) H' }
inductive HandsOk (X : Cx) : List ExceptHandler → List HandI → Prop
  | nil : HandsOk X [] []
  | cons {x n : Str} {q : HandI} {s0 : Stmt} {su : List Stmt} {np hp : Pos} {hds : List ExceptHandler} {l : List HandI} (hi : X.N[q.i]? = some n) (hln : X.env.kindOf n = some .local) (nm : Names X x q.c)
      (go : ∀ (a : Addr) (oe : Obj) (cls : Value) (d : Option Addr) (pn : List (Addr × Obj)), Zc cls d oe → (∃ vs, oe.data = .fields vs) → PSs (X.suite a ((a, oe) :: pn)) (s0 :: su) (q.ts a cls d)) (r : HandsOk X hds l) :
      HandsOk X (.ExceptHandler (some (.Name x np)) (some n) (s0 :: su) hp :: hds) (q :: l)
end
/-! ### the suites: return [tag, e.f?, isinstance(e, F)] -/
section
variable {X : Cx} {C CF a : Addr} {tag n : Str} {i : Nat}
def tHandM (C : Addr) (i : Nat) (tag : Str) (fl : Option Str) : Addr → Value → Option Addr → TS := fun a cls d D σ H => σ[i]? = some (some (.ref a)) ∧ cls = .ref C ∧
  match fl with
  | none => d = none ∧ ∀ p, H p = none → D.rt (.ref p) (upd H p (.lst [.str tag, .bl true]))
  | some f => ∃ dd v, d = some dd ∧ H dd = some (.xd [(f, v)]) ∧ ∀ p, H p = none → D.rt (.ref p) (upd H p (.lst [.str tag, v, .bl true]))
end
/-! ### the try -/
structure HD where
  t : Hand
  C : Addr
  i : Nat
def HD.hand (x : HD) : HandI := ⟨.ref x.C, x.i, tHandM x.C x.i x.t.tag (if x.t.fld then some (fldOf x.t.cls) else none)⟩
section
variable {X : Cx}
end
end FF

/-! FFExc5: rules by core form for errors; error classes as the text has them; ( *a, b). -/
namespace FF
open PySem PySem.Spec PyProof.Rows L2
/-- an error class without a field -/
structure Err0 (K : PySem.W.Frag) (mg : Str → Option Value) (c : String) (C : Addr) : Prop where
  g : mg (Str.ofString c) = some (.ref C)
  k : PySem.W.keepIn K (.ref C) = true
  q : PySem.W.excIn K C [.type "ValueError", .type "Exception", .type "BaseException", .type "object"] "ValueError.__new__" = true
  t : PySem.W.typeIn K (.ref C) = some (.type "type")
  e : ExcC K C
  n : NameK K c C
/-- an error class with a field -/
structure Err1 (P : Program) (K : PySem.W.Frag) (mg : Str → Option Value) (c : String) (C : Addr) : Prop where
  g : mg (Str.ofString c) = some (.ref C)
  f : FldC P K mg C (fldOf c)
  x : XfC K C
  e : ExcC K C
  n : NameK K c C
section
variable {X : Cx} {W : WX} {φ : Fn} {pos : Pos} {n k : Nat} {C : Addr} {c : String}
end
/-! ### clauses -/
section
variable {X : Cx} {C CF : Addr} {c : String} {i : Nat} {n : Str}
variable {x tag : Str} {J : Expr} {j : Nat} {p1 p6 p7 p8 p9 np hp : Pos} {hds : List ExceptHandler} {l : List HD}
end
/-! ### a keyword call that never raises, among those that may -/
section
variable {X : Cx} {W : EK X.K} {φ : Fn} {pos : Pos}
/-! a call of a def that may raise, where it is known not to -/
end
end FF

/-! FFErr: what a text says of its error classes, as one closed question. -/
namespace FF
open PySem PySem.Spec PyProof.Rows L2
/-- the errors' common facts -/
def excCB (K : PySem.W.Frag) (D : Addr) : Bool := decide (PySem.W.findIn K (.ref D) "__getattribute__" = some (some (.builtin "BaseException.__getattribute__"))) && (decide (PySem.W.findIn K (.ref D) "__getattr__" = some none) && (decide (PySem.W.subIn K (.ref D) (.type "BaseException") = some true) &&
  (PySem.W.hasDictIn K D && (decide (PySem.W.findIn K (.ref D) "__class__" = some (some (.builtin "object.__class__"))) && (decide (PySem.W.specialIn K (.builtin "object.__class__") "__get__" = some (some (.builtin "getset_descriptor.__get__"))) &&
    (decide (PySem.W.takesIn K (.builtin "object.__class__") = some true) && (decide (PySem.W.mroIn K D (.type "object") = some true) && (decide (PySem.W.typeIn K (.ref D) = some (.type "type")) && PySem.W.keepIn K (.ref D)))))))))
theorem excCB_ok {K : PySem.W.Frag} {D : Addr} (q : excCB K D = true) : ExcC K D ∧ PySem.W.typeIn K (.ref D) = some (.type "type") ∧ PySem.W.keepIn K (.ref D) = true := by
  unfold excCB at q
  simp only [Bool.and_eq_true, decide_eq_true_eq] at q
  obtain ⟨a1, a2, a3, a4, a5, a6, a7, a8, a9, a10⟩ := q
  exact ⟨⟨a1, a2, a3, a4, a5, a6, a7, a8⟩, a9, a10⟩
def nameB (K : PySem.W.Frag) (c : String) (C : Addr) : Bool := match K.lookup C with
  | some o => (match o.data with | .cls cd => decide (cd.name = c) | _ => false)
  | none => false
theorem nameB_ok {K : PySem.W.Frag} {c : String} {C : Addr} (h : nameB K c C = true) : NameK K c C := by
  unfold nameB at h
  split at h
  · rename_i o ho
    split at h
    · rename_i cd hd
      exact ⟨o, cd, ho, hd, of_decide_eq_true h⟩
    · cases h
  · cases h
theorem err0_by {K : PySem.W.Frag} {mg : Str → Option Value} {c : String} {C : Addr} (g : mg (Str.ofString c) = some (.ref C)) (q : (excCB K C && PySem.W.excIn K C [.type "ValueError", .type "Exception", .type "BaseException", .type "object"] "ValueError.__new__") = true) (hn : nameB K c C = true) : Err0 K mg c C := by
  obtain ⟨q1, q2⟩ := Bool.and_eq_true_iff.mp q
  obtain ⟨e, t, k⟩ := excCB_ok q1
  exact ⟨g, k, q2, t, e, nameB_ok hn⟩
end FF

/-! FFAli: a def that is called by a second name. -/
namespace FF
open PySem PySem.Spec PyProof.Rows L2
/-- a def of the name x, held by the name y -/
structure DefInA (K : PySem.W.Frag) (mg : Str → Option Value) (st : Stmt) (x y : Str) : Prop where
  ex : ∃ (f : Addr) (oc : Value) (od : Option Addr) (kV doc pm : Value) (an : Option Addr) (cdv ct : Value) (osl : Array (Option Value)),
    K.lookup f = some ⟨oc, od, .func (PySem.W.fnOf x x (defArgs st) (defBody st) (defScope st) .none kV doc pm an cdv ct), osl⟩ ∧ PySem.W.codeIn K cdv x = true ∧ mg y = some (.ref f) ∧ PySem.W.keepIn K (.ref f) = true
structure CalA (P : Program) (w : World) (K : PySem.W.Frag) (mg : Str → Option Value) (base : Heap) (k : Nat) (fx : List D → Hq → R (D × Hq)) (st : Stmt) (x y : Str) (ps : List Str) : Prop where
  ex : ∃ (f : Addr) (kV doc pm : Value) (an : Option Addr) (cdv ct : Value), Fg P w K mg base k f (PySem.W.fnOf x x (defArgs st) (defBody st) (defScope st) .none kV doc pm an cdv ct) ps (spF K fx) ∧ mg y = some (.ref f) ∧ PySem.W.keepIn K (.ref f) = true
section
variable {X : Cx} {k : Nat} {fx : List D → Hq → R (D × Hq)} {st : Stmt} {ps : List Str} {x y : Str} {p pos : Pos} {e : Expr} {es : List Expr}
end
end FF

/-! FFGet: d.get(k, x); dict displays where errors may pass. -/
namespace FF
open PySem PySem.Spec L2
section
variable {X : Cx} {W : EK X.K} {φ : Fn}
/-! ### what never raises -/
def Ex.calm : Ex → Bool
  | .var _ => true
  | .const _ => true
  | .bin _ _ a b => a.calm && b.calm
  | _ => false
def Exs.calm : Exs → Bool
  | .nil => true
  | .cons a r => a.calm && r.calm
end
end FF

/-! FFText: join, split, f-strings of two parts and a text between. -/
namespace FF
open PySem PySem.Spec L2
section
variable {X : Cx} {W : EK X.K} {φ : Fn}
end
end FF

/-! FFLamD: a def that makes a lambda. -/
namespace FF
open PySem PySem.Spec PyProof.Rows L2
end FF

/-! FFKey: dicts whose keys are tuples, nested. -/
namespace FF
open PySem PySem.Spec PyProof.Rows L2
/-! ### a hash without texts -/
mutual
theorem hash_bare (w w' : World) : ∀ k : NestedKey, bareK k = true → k.hash w = k.hash w'
  | .none, _ => rfl
  | .num _, _ => rfl
  | .text _, h => by cases h
  | .tup ks, h => by
    unfold NestedKey.hash
    rw [hashes_bare w w' ks (by unfold bareK at h; exact h)]
theorem hashes_bare (w w' : World) : ∀ ks : List NestedKey, bareKs ks = true → NestedKey.hashes w ks = NestedKey.hashes w' ks
  | [], _ => rfl
  | k :: ks, h => by
    unfold bareKs at h
    rw [Bool.and_eq_true] at h
    unfold NestedKey.hashes
    rw [hash_bare w w' k h.1, hashes_bare w w' ks h.2]
end
theorem bare_nums : ∀ ns : List Int, bareKs (ns.map NestedKey.num) = true
  | [] => rfl
  | n :: ns => by show (true && bareKs (ns.map _)) = true; rw [bare_nums ns]; rfl
mutual
theorem nk_bare : ∀ (d : D) (k : NestedKey), nk d = some k → bareK k = true
  | .non, _, e => by cases e; rfl
  | .bl _, _, e => by cases e; rfl
  | .int _, _, e => by cases e; rfl
  | .str _, _, e => by unfold nk at e; cases e
  | .tup ds, k, e => by
    unfold nk at e
    cases q : nks ds with
    | none => rw [q] at e; cases e
    | some ks => rw [q] at e; cases e; unfold bareK; exact nks_bare ds ks q
  | .lst _, _, e => by unfold nk at e; cases e
  | .scr _, _, e => by unfold nk at e; cases e
  | .ktp ns, k, e => by unfold nk at e; cases e; unfold bareK; exact bare_nums ns
  | .kpp _, _, e => by unfold nk at e; cases e
  | .ref _, _, e => by unfold nk at e; cases e
  | .dct _, _, e => by unfold nk at e; cases e
  | .exn _ _, _, e => by unfold nk at e; cases e
  | .opq _, _, e => by unfold nk at e; cases e
theorem nks_bare : ∀ (ds : List D) (ks : List NestedKey), nks ds = some ks → bareKs ks = true
  | [], _, e => by cases e; rfl
  | d :: ds, ks, e => by
    unfold nks at e
    cases q1 : nk d with
    | none => rw [q1] at e; cases e
    | some k =>
      cases q2 : nks ds with
      | none => rw [q1, q2] at e; cases e
      | some ks' =>
        rw [q1, q2] at e; cases e
        unfold bareKs
        rw [nk_bare d k q1, nks_bare ds ks' q2]; rfl
end
theorem keyN_some {d : D} {k : NestedKey} (h : keyN d = some k) : isTupD d = true ∧ nk d = some k ∧ k.depth ≤ 8 := by
  unfold keyN at h
  split at h
  · rename_i t
    split at h
    · rename_i k' e
      split at h
      · cases h; exact ⟨t, e, by assumption⟩
      · cases h
    · cases h
  · cases h
section
variable {X : Cx} {pins : List (Addr × Obj)} {σ : L2.St} {H : Hp} {s : Shared} {Fr ρ : List Addr}
theorem nums_all (h : Heap) : ∀ (ns : List Int) (us : List Value), Vals (ns.map V.int) us → NestedAll h (ns.map NestedKey.num) us
  | [], us, r => by rw [List.map_nil] at r; cases r; exact .nil
  | n :: ns, us, r => by
    rw [List.map_cons] at r
    cases r with
    | cons a b =>
      obtain ⟨t, rfl⟩ := a
      exact .cons (.int _ _) (nums_all h ns _ b)
mutual
/-- data as a key -/
theorem nk_is (I : Inv X pins σ H s) : ∀ (d : D) (k : NestedKey) (v : V) (u : Value), nk d = some k → RD X.K Fr ρ H d v → RelV v u → NestedIs s.heap k u
  | .non, k, v, u, e, r, q => by
    cases e
    rw [rd_non.mp r] at q
    cases (show u = Value.none from q)
    exact .none
  | .bl b, k, v, u, e, r, q => by
    cases e
    rw [rd_bl.mp r] at q
    cases (show u = Value.bool b from q)
    exact .bool rfl
  | .int i, k, v, u, e, r, q => by
    cases e
    rw [rd_int.mp r] at q
    obtain ⟨t, rfl⟩ := q
    exact .int _ _
  | .str _, _, _, _, e, _, _ => by unfold nk at e; cases e
  | .tup ds, k, v, u, e, r, q => by
    unfold nk at e
    obtain ⟨a, vs, rfl, sq, rs⟩ := r.sqT
    cases (show u = Value.ref a from q)
    obtain ⟨its, rv, ⟨o, e1, e2, n, e3⟩, _⟩ := I.tuple sq
    cases q2 : nks ds with
    | none => rw [q2] at e; cases e
    | some ks =>
      rw [q2] at e; cases e
      exact .tup e1 e2 e3 (nks_is I ds ks vs its q2 rs rv)
  | .lst _, _, _, _, e, _, _ => by unfold nk at e; cases e
  | .scr _, _, _, _, e, _, _ => by unfold nk at e; cases e
  | .ktp ns, k, v, u, e, r, q => by
    unfold nk at e
    cases e
    unfold RD at r
    obtain ⟨a, rfl, kk⟩ := r
    cases (show u = Value.ref a from q)
    obtain ⟨its, rv, ⟨o, e1, e2, n, e3⟩, _⟩ := I.tuple kk.sqT
    exact .tup e1 e2 e3 (nums_all _ ns its rv)
  | .kpp _, _, _, _, e, _, _ => by unfold nk at e; cases e
  | .ref _, _, _, _, e, _, _ => by unfold nk at e; cases e
  | .dct _, _, _, _, e, _, _ => by unfold nk at e; cases e
  | .exn _ _, _, _, _, e, _, _ => by unfold nk at e; cases e
  | .opq _, _, _, _, e, _, _ => by unfold nk at e; cases e
theorem nks_is (I : Inv X pins σ H s) : ∀ (ds : List D) (ks : List NestedKey) (vs : List V) (us : List Value), nks ds = some ks → RDs X.K Fr ρ H ds vs → Vals vs us → NestedAll s.heap ks us
  | [], ks, vs, us, e, r, q => by
    cases e
    unfold RDs at r
    subst r
    cases q
    exact .nil
  | d :: ds, ks, vs, us, e, r, q => by
    unfold nks at e
    unfold RDs at r
    obtain ⟨v, t, rfl, k1, r⟩ := r
    cases q with
    | cons a b =>
      cases q1 : nk d with
      | none => rw [q1] at e; cases e
      | some k =>
        cases q2 : nks ds with
        | none => rw [q1, q2] at e; cases e
        | some ks' =>
          rw [q1, q2] at e; cases e
          exact .cons (nk_is I d k v _ q1 k1 a) (nks_is I ds ks' t _ q2 r b)
end
theorem tup_ref {d : D} {v : V} (t : isTupD d = true) (r : RD X.K Fr ρ H d v) : ∃ a, v = .ref a := by
  cases d <;> first | (cases t; done) | skip
  · obtain ⟨a, _, e, _⟩ := r.tupl; exact ⟨a, e⟩
  · unfold RD at r; obtain ⟨a, e, _⟩ := r; exact ⟨a, e⟩
  · unfold RD at r; obtain ⟨a, e, _⟩ := r; exact ⟨a, e⟩
theorem keyN_is (I : Inv X pins σ H s) {d : D} {k : NestedKey} {v : V} {u : Value} (e : keyN d = some k) (r : RD X.K Fr ρ H d v) (q : RelV v u) : ∃ b, v = .ref b ∧ u = .ref b ∧ (nestedKind X.prog X.w).is s.heap k b := by
  obtain ⟨t, e1, e2⟩ := keyN_some e
  obtain ⟨b, rfl⟩ := tup_ref t r
  cases (show u = Value.ref b from q)
  exact ⟨b, rfl, rfl, nk_is I d k _ _ e1 r rfl, e2⟩

/-! ### the entries -/
theorem NR.cons_inv {K : PySem.W.Frag} {p : D × D} {kvs : List (D × D)} {xs : List (NestedKey × Addr × V)} (r : NR K Fr ρ H (p :: kvs) xs) :
    ∃ k b v t, xs = (k, b, v) :: t ∧ keyN p.1 = some k ∧ RD K Fr ρ H p.1 (.ref b) ∧ RD K Fr ρ H p.2 v ∧ NR K Fr ρ H kvs t := by
  obtain ⟨e, r1, r2⟩ := r
  cases xs with
  | nil => cases e
  | cons x t =>
    obtain ⟨k, b, v⟩ := x
    rw [List.map_cons, List.map_cons] at e
    have e1 := (List.cons.inj e).1
    have e2 := (List.cons.inj e).2
    rw [List.map_cons, List.map_cons] at r1 r2
    unfold RDs at r1 r2
    obtain ⟨v1, t1, z1, q1, s1⟩ := r1
    obtain ⟨v2, t2, z2, q2, s2⟩ := r2
    obtain ⟨y1, y2⟩ := List.cons.inj z1
    obtain ⟨y3, y4⟩ := List.cons.inj z2
    subst y1 y2 y3 y4
    exact ⟨k, b, v, t, rfl, e1, q1, q2, e2, s1, s2⟩
theorem NR.nil {K : PySem.W.Frag} : NR K Fr ρ H [] [] := ⟨rfl, RDs.nil, RDs.nil⟩
theorem NR.cons {K : PySem.W.Frag} {p : D × D} {kvs : List (D × D)} {k : NestedKey} {b : Addr} {v : V} {t : List (NestedKey × Addr × V)} (e : keyN p.1 = some k) (r1 : RD K Fr ρ H p.1 (.ref b)) (r2 : RD K Fr ρ H p.2 v) (r : NR K Fr ρ H kvs t) :
    NR K Fr ρ H (p :: kvs) ((k, b, v) :: t) := ⟨by rw [List.map_cons, List.map_cons, e, r.1], RDs.cons r1 r.2.1, RDs.cons r2 r.2.2⟩
theorem NR.length {K : PySem.W.Frag} {kvs : List (D × D)} {xs : List (NestedKey × Addr × V)} (r : NR K Fr ρ H kvs xs) : kvs.length = xs.length := by
  have := congrArg List.length r.1
  simpa using this
theorem NR.keys (I : Inv X pins σ H s) : ∀ {kvs : List (D × D)} {xs : List (NestedKey × Addr × V)}, NR X.K Fr ρ H kvs xs → ∀ x ∈ xs, (nestedKind X.prog X.w).is s.heap x.1 x.2.1 ∧ bareK x.1 = true
  | [], xs, r, x, hx => by
    have := r.length
    cases xs with
    | nil => cases hx
    | cons _ _ => cases this
  | p :: kvs, xs, r, x, hx => by
    obtain ⟨k, b, v, t, rfl, e, r1, r2, r⟩ := r.cons_inv
    rcases List.mem_cons.mp hx with rfl | hx
    · obtain ⟨b', e1, e2, q⟩ := keyN_is I (u := .ref b) e r1 rfl
      cases e1
      exact ⟨q, nk_bare _ _ (keyN_some e).2.1⟩
    · exact r.keys I x hx
/-- what stands at a key -/
theorem NR.at {K : PySem.W.Frag} (k : NestedKey) : ∀ {kvs : List (D × D)} {xs : List (NestedKey × Addr × V)} {ys : List (NestedKey × Addr × Value)}, NR K Fr ρ H kvs xs → PN xs ys →
    (nget kvs k = none ∧ atKey ys k = none) ∨ ∃ d v b u, nget kvs k = some d ∧ atKey ys k = some (b, u) ∧ RD K Fr ρ H d v ∧ RelV v u
  | [], xs, ys, r, q => by
    have := r.length
    cases xs with
    | nil => cases q; exact .inl ⟨rfl, rfl⟩
    | cons _ _ => cases this
  | p :: kvs, xs, ys, r, q => by
    obtain ⟨k', b, v, t, rfl, e, r1, r2, r⟩ := r.cons_inv
    cases q with
    | @cons _ y _ ys q1 q2 =>
      obtain ⟨yk, yb, yv⟩ := y
      obtain ⟨rfl, rfl, q1⟩ := q1
      by_cases h : k' = k
      · subst h
        refine .inr ⟨p.2, v, b, yv, ?_, ?_, r2, q1⟩
        · unfold nget; rw [List.find?_cons_of_pos (by rw [e]; simp)]; rfl
        · unfold atKey; rw [List.find?_cons_of_pos (by simp)]; rfl
      · rcases NR.at k r q2 with ⟨z1, z2⟩ | ⟨d, v', b', u, z1, z2, z3⟩
        · refine .inl ⟨?_, ?_⟩
          · unfold nget at z1 ⊢; rw [List.find?_cons_of_neg (by rw [e]; simpa using h)]; exact z1
          · unfold atKey at z2 ⊢; rw [List.find?_cons_of_neg (by simpa using h)]; exact z2
        · refine .inr ⟨d, v', b', u, ?_, ?_, z3⟩
          · unfold nget at z1 ⊢; rw [List.find?_cons_of_neg (by rw [e]; simpa using h)]; exact z1
          · unfold atKey at z2 ⊢; rw [List.find?_cons_of_neg (by simpa using h)]; exact z2
/-- the entries behind a store -/
def putXN (xs : List (NestedKey × Addr × V)) (k : NestedKey) (b : Addr) (v : V) : List (NestedKey × Addr × V) :=
  if (xs.any fun x => decide (x.1 = k)) = true then xs.map (fun x => if x.1 = k then (x.1, x.2.1, v) else x) else xs ++ [(k, b, v)]
theorem pn_any (k : NestedKey) : ∀ {xs : List (NestedKey × Addr × V)} {ys : List (NestedKey × Addr × Value)}, PN xs ys → (xs.any fun x => decide (x.1 = k)) = (atKey ys k).isSome
  | _, _, .nil => rfl
  | _, _, .cons (a := x) (b := y) (l₁ := xs) (l₂ := ys) q1 q2 => by
    obtain ⟨e1, e2, q1⟩ := q1
    have ih := pn_any k q2
    by_cases h : x.1 = k
    · rw [List.any_cons, decide_eq_true h]
      unfold atKey
      rw [List.find?_cons_of_pos (by rw [← e1]; simpa using h)]; rfl
    · rw [List.any_cons, decide_eq_false h, Bool.false_or, ih]
      unfold atKey
      rw [List.find?_cons_of_neg (by rw [← e1]; simpa using h)]
theorem nr_any {K : PySem.W.Frag} (k : NestedKey) : ∀ {kvs : List (D × D)} {xs : List (NestedKey × Addr × V)}, NR K Fr ρ H kvs xs → (kvs.any fun p => decide (keyN p.1 = some k)) = (xs.any fun x => decide (x.1 = k))
  | [], xs, r => by
    have := r.length
    cases xs with
    | nil => rfl
    | cons _ _ => cases this
  | p :: kvs, xs, r => by
    obtain ⟨k', b, v, t, rfl, e, r1, r2, r⟩ := r.cons_inv
    rw [List.any_cons, List.any_cons, nr_any k r, e]
    congr 1
    by_cases h : k' = k
    · subst h; simp
    · rw [decide_eq_false h, decide_eq_false (by simpa using h)]
theorem PN.put {xs : List (NestedKey × Addr × V)} {ys : List (NestedKey × Addr × Value)} {k : NestedKey} {b : Addr} {v : V} {u : Value} (q : PN xs ys) (ru : RelV v u) : PN (putXN xs k b v) (storedH ys k b u) := by
  unfold putXN storedH
  rw [pn_any k q]
  split
  · revert q
    generalize hxs : xs = xs', hys : ys = ys'
    clear hxs hys
    intro q
    unfold PN at q ⊢
    induction q with
    | nil => exact .nil
    | @cons x y xs ys q1 q2 ih =>
      obtain ⟨e1, e2, e3⟩ := q1
      refine .cons ?_ ih
      unfold putAt
      dsimp only
      by_cases h : x.1 = k
      · rw [if_pos h, if_pos (by rw [← e1]; exact h)]; exact ⟨e1, e2, ru⟩
      · rw [if_neg h, if_neg (by rw [← e1]; exact h)]; exact ⟨e1, e2, e3⟩
  · revert q
    generalize hxs : xs = xs', hys : ys = ys'
    clear hxs hys
    intro q
    unfold PN at q ⊢
    induction q with
    | nil => exact .cons ⟨rfl, rfl, ru⟩ .nil
    | @cons x y xs ys q1 q2 ih => exact .cons q1 ih
theorem nr_map {K : PySem.W.Frag} {k : NestedKey} {d : D} {v : V} (rd : RD K Fr ρ H d v) : ∀ {kvs : List (D × D)} {xs : List (NestedKey × Addr × V)}, NR K Fr ρ H kvs xs →
    NR K Fr ρ H (kvs.map fun p => if keyN p.1 = some k then (p.1, d) else p) (xs.map fun x => if x.1 = k then (x.1, x.2.1, v) else x)
  | [], xs, r => by
    have := r.length
    cases xs with
    | nil => exact NR.nil
    | cons _ _ => cases this
  | p :: kvs, xs, r => by
    obtain ⟨k', b, w, t, rfl, e, r1, r2, r⟩ := r.cons_inv
    rw [List.map_cons, List.map_cons]
    have ih := nr_map (k := k) rd r
    by_cases h : k' = k
    · subst h
      rw [if_pos e]
      dsimp only
      rw [if_pos rfl]
      exact .cons e r1 rd ih
    · rw [if_neg (by rw [e]; simpa using h)]
      dsimp only
      rw [if_neg h]
      exact .cons e r1 r2 ih
theorem nr_snoc {K : PySem.W.Frag} {k : NestedKey} {c d : D} {b : Addr} {v : V} (e : keyN c = some k) (rc : RD K Fr ρ H c (.ref b)) (rd : RD K Fr ρ H d v) : ∀ {kvs : List (D × D)} {xs : List (NestedKey × Addr × V)}, NR K Fr ρ H kvs xs →
    NR K Fr ρ H (kvs ++ [(c, d)]) (xs ++ [(k, b, v)])
  | [], xs, r => by
    have := r.length
    cases xs with
    | nil => exact .cons e rc rd .nil
    | cons _ _ => cases this
  | p :: kvs, xs, r => by
    obtain ⟨k', b', w, t, rfl, e', r1, r2, r⟩ := r.cons_inv
    exact .cons e' r1 r2 (nr_snoc e rc rd r)
theorem NR.put {K : PySem.W.Frag} {kvs : List (D × D)} {xs : List (NestedKey × Addr × V)} {k : NestedKey} {c d : D} {b : Addr} {v : V} (r : NR K Fr ρ H kvs xs) (e : keyN c = some k) (rc : RD K Fr ρ H c (.ref b)) (rd : RD K Fr ρ H d v) :
    NR K Fr ρ H (nput kvs c k d) (putXN xs k b v) := by
  unfold nput putXN
  rw [nr_any k r]
  split
  · exact nr_map rd r
  · exact nr_snoc e rc rd r
/-! ### the dict itself -/
/-! ### {}, d.get(k, x), d[k] = v -/
end
section
variable {X : Cx} {W : EK X.K} {φ : Fn} {pos : Pos}
/-- the dict of a cell -/
theorem HR.dctN {K : PySem.W.Frag} {Fr ρ : List Addr} {H : Hp} {h : Hq} {n : Nat} {kvs : List (D × D)} {v : V} (r : HR K Fr ρ h H) (d : RD K Fr ρ H (.ref n) v) (e : h[n]? = some (.dctN kvs)) :
    ∃ a xs, v = .ref a ∧ ρ[n]? = some a ∧ H a = some (NDict a xs) ∧ NR K Fr ρ H kvs xs := by
  unfold RD at d
  obtain ⟨a, e1, e2⟩ := d
  obtain ⟨b, e3, xs, e4, q⟩ := r.at' n _ e
  rw [e2] at e3; cases e3
  exact ⟨a, xs, e1, e2, e4, q⟩
/-! ### list(d) -/
/-! ### {k: v} -/
/-! ### [y for x, y in d] -/
/-! ### dict(t).get(k, x), t a tuple of pairs of ints -/
end
end FF

/-! FFErrV: errors that are kept: try .. except C as e: return e; e.field later. -/
namespace FF
open PySem PySem.Spec PyProof.Rows L2
/-! ### the field of an error that is kept -/
section
variable {X : Cx} {W : EK X.K} {φ : Fn} {pos : Pos}
end
/-! ### an error starts to be tracked -/
section
variable {X : Cx} {pins : List (Addr × Obj)} {σ : L2.St} {H : Hp} {s : Shared}
end
/-! ### try: body, except C as n: return n -/
end FF

/-! FFDict0: {} as data; repr([x, y]) where y may be {}; the least of pairs of an int and a tuple. -/
namespace FF
open PySem PySem.Spec PyProof.Rows L2
section
variable {X : Cx} {W : EK X.K} {φ : Fn} {pos : Pos}
theorem w_dct0 : SE X W (.Dict [] [] pos) (ev φ (.const (.dct []))) := by
  refine PE.imp pe_dnewK fun σ H Q ⟨Fr, ρ, s, h, r, sr, ok⟩ p hp => ?_
  conv at ok => unfold ev
  have ok : Kont X.K Fr ρ H Q (.dct [], h) := ok
  refine ok _ ρ _ (ext_new hp) (r.new hp) ?_
  unfold RD
  exact ⟨[], .inl ⟨rfl, rfl⟩, p, rfl, upd_same, (r.fresh hp).1, (r.fresh hp).2⟩
end
/-! ### a list display, away from the modules -/
/-! ### its repr -/
section
variable {X : Cx} {W : EK X.K} {φ : Fn} {pos : Pos}
end
/-! ### the least of pairs -/
/-- values that are such pairs -/
def PairsAt (K : PySem.W.Frag) (H : Hp) : List V → List (Int × List Int) → Prop
  | [], [] => True
  | v :: vs, n :: ns => (∃ t t2, v = V.ref t ∧ SqT K H t [V.int n.1, V.ref t2] ∧ SqT K H t2 (n.2.map V.int)) ∧ PairsAt K H vs ns
  | _, _ => False
theorem PairsAt.get {K : PySem.W.Frag} {H : Hp} : ∀ {vs : List V} {ns : List (Int × List Int)} {i : Nat} {v : V}, PairsAt K H vs ns → vs[i]? = some v → ∃ t n, v = V.ref t ∧ ns[i]? = some n
  | v :: vs, n :: ns, 0, w, h, e => by
    cases e
    obtain ⟨t, _, e1, _⟩ := h.1
    exact ⟨t, n, e1, rfl⟩
  | v :: vs, n :: ns, i + 1, w, h, e => by simpa using PairsAt.get h.2 (by simpa using e)
end FF

/-! FFObj: objects whose parts nobody reads: C() of an error class, an instance that its __init__ makes. -/
namespace FF
open PySem PySem.Spec PyProof.Rows L2
/-- no int, no bool, no text, no tuple -/
def N4 (K : PySem.W.Frag) (C : Addr) : Prop := ∀ T, T = "int" ∨ T = "bool" ∨ T = "str" ∨ T = "tuple" → PySem.W.kitOne K (.ref C) (.type T) = some false
def n4B (K : PySem.W.Frag) (C : Addr) : Bool := ["int", "bool", "str", "tuple"].all fun T => PySem.W.kitOne K (.ref C) (.type T) == some false
theorem n4_by {K : PySem.W.Frag} {C : Addr} (h : n4B K C = true) : N4 K C := fun T hT => by
  unfold n4B at h
  rw [List.all_eq_true] at h
  have m : T ∈ ["int", "bool", "str", "tuple"] := by
    rcases hT with rfl | rfl | rfl | rfl <;> simp
  exact eq_of_beq (h T m)
section
variable {X : Cx} {C : Addr} {bmB : List Value} {B newId initId : String}
/-- C(), an own error class without own __init__, as a value -/
theorem pe_exc0 {x : Str} {p pos : Pos} (F : ExcBaseFacts B newId initId bmB) (q : PySem.W.excIn X.K C bmB newId = true) (gC : X.mg x = some (.ref C)) (kC : PySem.W.keepIn X.K (.ref C) = true) (hg : Gl X x)
    (hdb : (x == ("__debug__" : Str)) = false) : PE X (.Call (.Name x p) [] [] pos) (fun _ H Q => ∀ a oe, H a = none → Zc (.ref C) none oe → (∃ fs, oe.data = .fields fs) → Q (.ref a) (upd H a (.frz oe (.own 0)))) := by
  refine ⟨fun pins s σ H Q I h => ?_⟩
  refine wpAny_Call_Name_kw (ld_glob I hg gC ?_ hdb)
  refine PySem.W.callWith_K0 I.kIn kC ?_
  show wpAny _ _ (call (.ref C) []) _ _ _
  obtain ⟨bm, N, nm, qn, bs, hdct, sn, sub, ab, col, dd, k0, k1, k2, k3, k5, mN, hC, hN, hni, T⟩ := exc_obj I.kIn q
  refine wpAny_call_exc_subT F T hC hN hni (fun h' a hm => ?_) (by show 0 ≤ sizeLine; omega)
  have hn : H a = none := I.hok.gone hm.new
  obtain ⟨t, ht, _, _⟩ := hm.there
  exact ⟨.ref a, upd H a (.frz _ (.own 0)), I.laidN hm.keeps hm.new hn ⟨ht, ⟨_, ht⟩⟩, rfl, h a _ hn ⟨rfl, rfl⟩ ⟨_, rfl⟩⟩
variable {W : EK X.K} {φ : Fn}
theorem w_opq0 {c : String} {x : Str} {p pos : Pos} (E : Err0 X.K X.mg c C) (n4 : N4 X.K C) (hx : x = Str.ofString c) (hg : Gl X x) (hdb : (x == ("__debug__" : Str)) = false) :
    SE X W (.Call (.Name x p) [] [] pos) (ev φ (.bi .opq0 false .nil)) := by
  refine PE.imp (pe_exc0 F.excBase_ValueError E.q (hx ▸ E.g) E.k hg hdb) fun σ H Q ⟨Fr, ρ, s, h, r, sr, ok⟩ a oe na hz hf => ?_
  have ok : okR (Kont X.K Fr ρ H Q) (W.p Fr ρ H σ) ((evs φ .nil s h).bind fun (ds, h) => lift (biD .opq0 false ds h)) := by
    conv at ok => unfold ev
    exact ok
  unfold evs at ok
  have k : Kont X.K Fr ρ H Q (.opq 0, h) := ok
  refine k (.ref a) ρ _ (ext_new na) (r.new na) ?_
  unfold RD
  exact ⟨a, rfl, (r.fresh na).1, (r.fresh na).2, .inl ⟨oe, C, upd_same, hz, hf, ⟨E.e, n4⟩⟩⟩
end
/-! ### an instance that its __init__ makes -/
section
variable {X : Cx} {k : Nat} {f C : Addr} {fd : FuncData} {ps : List Str} {sp : SpV} {x : Str} {p pos : Pos} {e : Expr} {es : List Expr} {t : TA}
theorem pe_mk (M : Mk X.K C f) (F : Fg X.prog X.w X.K X.mg X.base k f fd ps sp) (hgd : X.A.guards = some []) (hr : Room (k + 1) X.A) (hg : Gl X x) (hm : X.mg x = some (.ref C))
    (hb : ∀ us : List Value, us.length = ps.length → bindArgs fd ⟨us, []⟩ = pure (ps.zip us)) (ha : PA X (e :: es) t) (hdb : (x == ("__debug__" : Str)) = false)
    (he : starEach (e :: es) X.env = (false, eval e X.env) :: starEach es X.env) (hpl : (backTo pos (starEach es X.env)).any (·.1) = false) :
    PE X (.Call (.Name x p) (e :: es) [] pos) (fun σ H Q => t σ H fun vs H1 => ∀ y dx, H1 y = none → H1 dx = none → dx ≠ y → sp (.ref y :: vs) (upd (upd H1 dx (.own y)) y (.ins C dx [])) (fun v H2 => v = .non ∧ Q (.ref y) H2)) := by
  refine ⟨fun pins s σ H Q I h => ?_⟩
  refine wpAny_Call_Name_kw (ld_glob I hg hm ?_ hdb)
  refine PySem.W.callWith_K (h₀ := X.base) I.ok.mod.kin M.kp (thn (ha.run pos pins s σ H _ I h) fun us s1 ⟨vs, H1, I1, r, q⟩ => ⟨I1.kIn, ?_⟩) he hpl
  have hq := q (s1.heap.objs.size + 1) s1.heap.objs.size (I1.hok.fresh (Nat.le_succ _)) (I1.hok.fresh (Nat.le_refl _)) (Nat.ne_of_lt (Nat.lt_succ_self _))
  have I2 := Inv.made (C := C) I1
  have r2 : Vals (V.ref (s1.heap.objs.size + 1) :: vs) (Value.ref (s1.heap.objs.size + 1) :: us) := .cons rfl r
  have hl : (Value.ref (s1.heap.objs.size + 1) :: us).length = ps.length := by rw [← r2.length]; exact F.many _ _ _ hq
  refine wpAny_call (make_map (f := f) I1.kIn M.makes M.init (beq_iff_eq.mp M.fn) (codeAny_mono (F.goes _ X.stack _ _ ⟨Value.ref (s1.heap.objs.size + 1) :: us, []⟩ (Value.ref (s1.heap.objs.size + 1) :: us) _ _ (by first | exact hgd | (simpa [Around.under] using hgd)) (hr.make C us [])
    (I2.env0.make C us []) (.of_eq (hb _ hl)) r2 hq) ?_))
  rintro _ s' ⟨u, rfl, c⟩
  obtain ⟨v, H', I3, rv, ev, q3⟩ := I2.after c
  subst ev
  exact ⟨rv, ⟨V.ref (s1.heap.objs.size + 1), H', I3, rfl, q3⟩⟩
end
/-! ### the __init__ of a desk: error = book_error(book); if error is not None: raise ..; self.books = (book,); self.edits = (); self.taken_back = () -/
/-- what the walk of it asks -/
def tDesk (K : PySem.W.Frag) (C : Addr) (fbe : List D → Hq → R (D × Hq)) : TS := fun D σ H => ∃ (Fr ρ : List Addr) (h : Hq) (d : FF.D) (x : V) (y dx : Addr) (H0 : Hp), σ = [some (.ref y), some x, none] ∧ H = upd (upd H0 dx (.own y)) y (.ins C dx []) ∧ H0 y = none ∧ H0 dx = none ∧ dx ≠ y ∧
  HR K Fr ρ h H0 ∧ RD K Fr ρ H0 d x ∧ okR (fun p => p.1 = .non ∧ ∀ σ' ρ' H' fs, Ext ρ H0 ρ' H' → HR K Fr ρ' p.2 H' → y ∉ ρ' → y ∉ Fr → H' y = some (.ins C dx fs) → D.nx σ' H') (fun _ _ => False) (fbe [d] h)
theorem pss_never {X : Cx} {b : List Stmt} : PSs X b (fun _ _ _ => False) := ⟨fun _ _ _ _ _ _ h => h.elim⟩
theorem pss_desk {X : Cx} {C : Addr} {k : Nat} {fbe : List D → Hq → R (D × Hq)} {st : Stmt} {raises : List Stmt} {vps : List Str} {p1 p2 p3 p4 p5 p6 p7 p8 p9 q1 q2 q3 q4 q5 q6 q7 q8 q9 r1 r2 r3 r4 : Pos} {k1 : Nat} {x1 x2 x3}
    (Cb : Cal X.prog X.w X.K X.mg X.base k fbe st "book_error" vps) (hgd : X.A.guards = some []) (hr : Room k X.A) (hg : Gl X "book_error")
    (hb : ∀ (kV doc pm : Value) (an : Option Addr) (cdv ct : Value) (us : List Value), us.length = vps.length → bindArgs (PySem.W.fnOf "book_error" "book_error" (defArgs st) (defBody st) (defScope st) .none kV doc pm an cdv ct) ⟨us, []⟩ = pure (vps.zip us))
    (hN : X.N.Nodup) (n0 : X.N[0]? = some ("self" : Str)) (n1 : X.N[1]? = some ("book" : Str)) (n2 : X.N[2]? = some ("error" : Str)) (v0 : Vis X.env.scope "self") (v1 : Vis X.env.scope "book") (v2 : Vis X.env.scope "error") (l2 : Loc X.env.scope "error")
    (hf : X.fn "error" = true ∨ X.env.scope.names.lookup ("error" : Str) = some .local)
    (he : starEach [Expr.Name "book" p3] X.env = (false, eval (Expr.Name "book" p3) X.env) :: starEach [] X.env) (he2 : starEach [Expr.Name "book" q3] X.env = (false, eval (Expr.Name "book" q3) X.env) :: starEach [] X.env) (hpl : (backTo p4 (starEach [] X.env)).any (·.1) = false)
    (s1 : swapsWithSole [.Name "error" p1] (.Call (.Name "book_error" p2) [.Name "book" p3] [] p4) p5.line X.env = pure false) (s2 : swappedStores [.Name "error" p1] (.Call (.Name "book_error" p2) [.Name "book" p3] [] p4) X.env = pure none)
    (w1 : swapsWith (.Tuple [.Name "book" q3] x1 q4) (some (.Attribute (.Name "self" q1) "books" q2)) q5.line X.env = pure false) (w2 : swapsWith (.Tuple [] x2 q8) (some (.Attribute (.Name "self" q6) "edits" q7)) q9.line X.env = pure false)
    (w3 : swapsWith (.Tuple [] x3 r3) (some (.Attribute (.Name "self" r1) "taken_back" r2)) r4.line X.env = pure false)
    (hm : behindInMarks .IsNot (.Constant .none k1 p7) = false) (cl : Cls X.K C) (a1 : NoAttr X.K C "books") (a2 : NoAttr X.K C "edits") (a3 : NoAttr X.K C "taken_back") :
    PSs X [.Assign [.Name "error" p1] (.Call (.Name "book_error" p2) [.Name "book" p3] [] p4) p5, .If (.Compare (.Name "error" p6) [.IsNot] [.Constant .none k1 p7] p8) raises [] p9,
      .Assign [.Attribute (.Name "self" q1) "books" q2] (.Tuple [.Name "book" q3] x1 q4) q5, .Assign [.Attribute (.Name "self" q6) "edits" q7] (.Tuple [] x2 q8) q9, .Assign [.Attribute (.Name "self" r1) "taken_back" r2] (.Tuple [] x3 r3) r4] (tDesk X.K C fbe) := by
  obtain ⟨f, kV, doc, pm, an, cdv, ct, F, hmf, hk⟩ := Cb.ex
  refine PSs.imp (pss_cons (ps_asg (pe_fg F hgd hr hg hmf hk (hb _ _ _ _ _ _) (pa_cons (pe_var n1 v1) pa_nil he) (by decide) he hpl) (pg_name hN n2 l2 hf) s1 s2)
    (pss_cons (ps_if (pt_cmpR op_notN (pe_var n2 v2) pe_non hm) (pss_never (b := raises)) pss_nil)
      (pss_cons (ps_fld (pe_var n0 v0) (pe_tup (pa_cons (pe_var n1 v1) pa_nil he2)) w1)
        (pss_cons (ps_fld (pe_var n0 v0) (pe_tup pa_nil) w2) (pss_one (ps_fld (pe_var n0 v0) (pe_tup pa_nil) w3)))))) fun D σ H h => ?_
  obtain ⟨Fr, ρ, h0, d, x, y, dx, H0, rfl, rfl, ny, nd, ne, r, rd, ok⟩ := h
  have n1' : (upd H0 dx (.own y)) y = none := by rw [upd_ne (Ne.symm ne)]; exact ny
  have r1 := (r.new (o := .own y) nd).aside (o := .ins C dx []) n1'
  have e1 : Ext ρ H0 ρ (upd (upd H0 dx (.own y)) y (.ins C dx [])) := (ext_new nd).alt ny
  have rd1 : RD X.K (y :: Fr) ρ (upd (upd H0 dx (.own y)) y (.ins C dx [])) d x := RD.mono e1 _ _ (RD.fr (fun a ha => (List.mem_cons.mp ha).elim (fun e => .inr (e ▸ ny)) .inl) d x rd)
  have fy := r.fresh ny
  refine ⟨x, rfl, ⟨y :: Fr, ρ, h0, [d], r1, .cons rd1 .nil, okR.mono ok ?_ fun _ _ z => z⟩⟩
  rintro ⟨pv, h2⟩ ⟨e, q⟩ v ρ2 H2 x2 r2 d2
  dsimp only at e q r2 d2
  subst e
  have ev := rd_non.mp d2
  subst ev
  have hy2 : H2 y = some (.ins C dx []) := x2.keep y _ fy.1 upd_same
  have oy : y ∉ ρ2 := x2.out fy.1 (o := .ins C dx []) upd_same
  have e2 : Ext ρ H0 ρ2 H2 := Ext.step r1 e1 x2
  refine ⟨.non, rfl, rfl, _, rfl, ?_⟩
  show (if (!decide (V.non = V.non)) = true then _ else _)
  rw [if_neg (by simp)]
  refine ⟨x, rfl, show 1 ≤ sizeLine by rw [sizeLine_eq]; decide, fun p np => ⟨.ref y, rfl, y, C, dx, [], rfl, ?_, cl, a1, by decide, ?_⟩⟩
  · rw [upd_ne (ne_of_none hy2 np)]; exact hy2
  have hy3 : (upd H2 p (.tup [x])) y = some (.ins C dx []) := by rw [upd_ne (ne_of_none hy2 np)]; exact hy2
  have e4 := (Ext.step r2 e2 (ext_new (o := .tup [x]) np)).alt (o := .ins C dx (putF "books" (.ref p) [])) ny
  have r4 := (r2.new (o := .tup [x]) np).alt (o := .ins C dx (putF "books" (.ref p) [])) List.mem_cons_self rfl hy3
  have l4 : (putF "books" (.ref p) ([] : List (Str × V))).length ≤ 1 := length_putF _ _ _
  have hy4 : (upd (upd H2 p (.tup [x])) y (.ins C dx (putF "books" (.ref p) []))) y = some (.ins C dx (putF "books" (.ref p) [])) := upd_same
  generalize putF "books" (.ref p) ([] : List (Str × V)) = f4 at e4 r4 l4 hy4
  generalize upd (upd H2 p (.tup [x])) y (.ins C dx f4) = H4 at e4 r4 hy4
  refine ⟨show 0 ≤ sizeLine by omega, fun p5 np5 => ⟨.ref y, rfl, y, C, dx, f4, rfl, ?_, cl, a2, by omega, ?_⟩⟩
  · rw [upd_ne (ne_of_none hy4 np5)]; exact hy4
  have hy5 : (upd H4 p5 (.tup [])) y = some (.ins C dx f4) := by rw [upd_ne (ne_of_none hy4 np5)]; exact hy4
  have e6 := (Ext.step r4 e4 (ext_new (o := .tup []) np5)).alt (o := .ins C dx (putF "edits" (.ref p5) f4)) ny
  have r6 := (r4.new (o := .tup []) np5).alt (o := .ins C dx (putF "edits" (.ref p5) f4)) List.mem_cons_self rfl hy5
  have l6 : (putF "edits" (.ref p5) f4).length ≤ 2 := Nat.le_trans (length_putF _ _ _) (by omega)
  have hy6 : (upd (upd H4 p5 (.tup [])) y (.ins C dx (putF "edits" (.ref p5) f4))) y = some (.ins C dx (putF "edits" (.ref p5) f4)) := upd_same
  generalize putF "edits" (.ref p5) f4 = f6 at e6 r6 l6 hy6
  generalize upd (upd H4 p5 (.tup [])) y (.ins C dx f6) = H6 at e6 r6 hy6
  refine ⟨show 0 ≤ sizeLine by omega, fun p7 np7 => ⟨.ref y, rfl, y, C, dx, f6, rfl, ?_, cl, a3, by omega, ?_⟩⟩
  · rw [upd_ne (ne_of_none hy6 np7)]; exact hy6
  have hy7 : (upd H6 p7 (.tup [])) y = some (.ins C dx f6) := by rw [upd_ne (ne_of_none hy6 np7)]; exact hy6
  have e8 := (Ext.step r6 e6 (ext_new (o := .tup []) np7)).alt (o := .ins C dx (putF "taken_back" (.ref p7) f6)) ny
  have r8 := (r6.new (o := .tup []) np7).alt (o := .ins C dx (putF "taken_back" (.ref p7) f6)) List.mem_cons_self rfl hy7
  exact q _ ρ2 _ _ e8 (r8.back fun a ha => List.mem_cons_of_mem _ ha) oy fy.2 upd_same
/-- the __init__ as a def of the core: its answer is the object -/
def dInit (be : Nat) : Def := ⟨.live, 1, ["book", "error"], .cons (.set (.name 1) (.call be (.cons (.var 0) .nil))) (.cons (.ite (.cmp .IsNot (.var 1) (.const .non)) (.cons .never .nil) .nil) (.cons (.ret (.const (.opq 1))) .nil))⟩
/-- the class, called, as a def of the core -/
def dMake (ini : Nat) : Def := ⟨.live, 1, ["book"], .cons (.ret (.call ini (.cons (.var 0) .nil))) .nil⟩
theorem dInit_eq {φ : Fn} {be : Nat} {d : D} {h : Hq} : runDef φ (dInit be) [d] h = (φ be [d] h).bind fun q => if isNon q.1 then .ok (.opq 1, q.2) else .stuck := by
  show (exB φ (dInit be).body [some d, none] h).bind endOf = _
  unfold dInit
  dsimp only
  unfold exB exS ev evs evs ev
  simp only [R.bind, List.getElem?_cons_zero]
  cases φ be [d] h with
  | ok q =>
    obtain ⟨x, h1⟩ := q
    simp only [asg, List.set_cons_succ, List.set_cons_zero]
    rw [show (if 1 < [some d, none].length then some [some d, some x] else none) = some [some d, some x] from rfl]
    dsimp only
    have et : testOf (ev φ (.cmp .IsNot (.var 1) (.const .non)) [some d, some x] h1) = .ok (!isNon x, h1) := by
      unfold ev ev
      rfl
    have er : exB φ (.cons (.ret (.const (.opq 1))) .nil) [some d, some x] h1 = .ok (.rt (.opq 1) h1) := by
      unfold exB exS ev
      rfl
    have en : exB φ (.cons .never .nil) [some d, some x] h1 = .stuck := by
      unfold exB exS
      rfl
    have ei : exB φ (Sms.cons (Sm.ite (Ex.cmp CmpOp.IsNot (Ex.var 1) (Ex.const D.non)) (Sms.cons Sm.never Sms.nil) Sms.nil) (Sms.cons (Sm.ret (Ex.const (D.opq 1))) Sms.nil)) [some d, some x] h1 = if isNon x = true then .ok (.rt (.opq 1) h1) else .stuck := by
      rw [exB, exS, et]
      cases isNon x with
      | true =>
        simp only [R.bind, Bool.not_true, Bool.false_eq_true, if_false]
        rw [show exB φ Sms.nil [some d, some x] h1 = .ok (.nx [some d, some x] h1) by unfold exB; rfl]
        simp only []
        rw [er]; rfl
      | false =>
        simp only [R.bind, Bool.not_false, if_true]
        rw [en]; rfl
    rw [ei]
    by_cases c : isNon x = true
    · rw [if_pos c, if_pos c]; rfl
    · rw [if_neg c, if_neg c]
  | exc z h1 => rfl
  | stuck => rfl
theorem dInit_ok {φ : Fn} {be : Nat} {d : D} {h : Hq} {P : D × Hq → Prop} {E : D → Hq → Prop} (ok : okR P E (runDef φ (dInit be) [d] h)) : okR (fun p => p.1 = .non ∧ P (.opq 1, p.2)) E (φ be [d] h) := by
  rw [dInit_eq] at ok
  refine (okR_bind.mp ok).mono (fun p q => ?_) fun _ _ z => z
  by_cases c : isNon p.1 = true
  · rw [if_pos c] at q
    refine ⟨?_, q⟩
    cases hp : p.1 with
    | non => rfl
    | _ => rw [hp] at c; cases c
  · rw [if_neg c] at q
    exact q.elim
theorem dMake_ok {φ : Fn} {ini : Nat} {d : D} {h : Hq} : runDef φ (dMake ini) [d] h = φ ini [d] h := by
  show (exB φ (dMake ini).body [some d] h).bind endOf = _
  unfold dMake
  dsimp only
  unfold exB exS ev evs evs ev
  simp only [R.bind, List.getElem?_cons_zero]
  cases φ ini [d] h with
  | ok q => rfl
  | exc z h1 => rfl
  | stuck => rfl
/-- the promise of such an __init__ -/
def spI (K : PySem.W.Frag) (C : Addr) (g : List D → Hq → R (D × Hq)) : SpV := fun vs H Q => ∃ (y : Addr) (x : V), vs = [.ref y, x] ∧ ∃ (Fr ρ : List Addr) (h : Hq) (d : D) (dx : Addr) (H0 : Hp), H = upd (upd H0 dx (.own y)) y (.ins C dx []) ∧ H0 y = none ∧ H0 dx = none ∧ dx ≠ y ∧ HR K Fr ρ h H0 ∧ RD K Fr ρ H0 d x ∧
  okR (fun p => p.1 = .opq 1 ∧ ∀ ρ' H' fs, Ext ρ H0 ρ' H' → HR K Fr ρ' p.2 H' → y ∉ ρ' → y ∉ Fr → H' y = some (.ins C dx fs) → Q .non H') (fun _ _ => False) (g [d] h)
/-- the __init__ stands in the text -/
structure DeskIn (K : PySem.W.Frag) (mg : Str → Option Value) (sti : Stmt) (q x : Str) : Prop where
  ex : ∃ (C f : Addr) (oc : Value) (od : Option Addr) (kV doc pm : Value) (an : Option Addr) (cdv ct : Value) (osl : Array (Option Value)), K.lookup f = some ⟨oc, od, .func (PySem.W.fnOf "__init__" q (defArgs sti) (defBody sti) (defScope sti) .none kV doc pm an cdv ct), osl⟩ ∧ PySem.W.codeIn K cdv q = true ∧
    Mk K C f ∧ mg x = some (.ref C) ∧ InsK K C ∧ NoAttr K C "books" ∧ NoAttr K C "edits" ∧ NoAttr K C "taken_back"
/-- .. and keeps its promise -/
structure DeskO (P : Program) (w : World) (K : PySem.W.Frag) (mg : Str → Option Value) (base : Heap) (k : Nat) (g : List D → Hq → R (D × Hq)) (x : Str) : Prop where
  ex : ∃ (C f : Addr) (fd : FuncData) (ps : List Str), Fg P w K mg base k f fd ps (spI K C g) ∧ Mk K C f ∧ mg x = some (.ref C) ∧ InsK K C ∧ ∀ us : List Value, us.length = ps.length → bindArgs fd ⟨us, []⟩ = pure (ps.zip us)
  ans : ∀ d h p, g [d] h = .ok p → p.1 = .opq 1
/-- the class may be called -/
structure MakeO (P : Program) (w : World) (K : PySem.W.Frag) (mg : Str → Option Value) (base : Heap) (k : Nat) (gx : List D → Hq → R (D × Hq)) (x : Str) : Prop where
  ex : (∀ ds h, gx ds h = .stuck) ∨ ∃ j g, k = j + 1 ∧ DeskO P w K mg base j g x ∧ ∀ d h, gx [d] h = g [d] h
section
variable {P : Program} {w : World} {K : PySem.W.Frag} {mg : Str → Option Value} {base : Heap} {sti : Stmt} {q x : Str}
theorem deskO_zero {tbl : List (Nat × Def)} {id : Nat} {ps : List Str} (D0 : DeskIn K mg sti q x) (hb : ∀ (kV doc pm : Value) (an : Option Addr) (cdv ct : Value) (us : List Value), us.length = ps.length → bindArgs (PySem.W.fnOf "__init__" q (defArgs sti) (defBody sti) (defScope sti) .none kV doc pm an cdv ct) ⟨us, []⟩ = pure (ps.zip us)) :
    DeskO P w K mg base 0 (run tbl 0 id) x := by
  obtain ⟨C, f, oc, od, kV, doc, pm, an, cdv, ct, osl, lk, ci, M, hm, IK, _⟩ := D0.ex
  have no : ∀ vs H Q, ¬ spI K C (run tbl 0 id) vs H Q := by
    rintro vs H Q ⟨y, x, rfl, Fr, ρ, h, d, dx, H0, _, _, _, _, _, _, ok⟩
    exact ok
  exact ⟨⟨C, f, _, ps, ⟨fun vs H Q h => (no _ _ _ h).elim, fun A outer s H args us vs Q _ _ _ _ _ h => (no _ _ _ h).elim⟩, M, hm, IK, hb kV doc pm an cdv ct⟩, fun _ _ _ e => by cases e⟩
theorem deskO_succ {k be : Nat} {φ : Fn} {N ps : List Str} (D0 : DeskIn K mg sti q x) (S : FnScope N ps (defScope sti)) (hN : N.length = 3) (hp : ps.length = 2)
    (hb : ∀ (kV doc pm : Value) (an : Option Addr) (cdv ct : Value) (us : List Value), us.length = ps.length → bindArgs (PySem.W.fnOf "__init__" q (defArgs sti) (defBody sti) (defScope sti) .none kV doc pm an cdv ct) ⟨us, []⟩ = pure (ps.zip us))
    (body : ∀ (C : Addr) (_ : Cls K C) (_ : NoAttr K C "books") (_ : NoAttr K C "edits") (_ : NoAttr K C "taken_back") (f : Addr) (cdv : Value) (A : Around) (outer : List Env) (s : Shared) (H : Hp), A.guards = some [] → Room k (A.deeper (envOfC q (defScope sti) s.heap.objs.size f cdv)) →
      PSs (Xb P w K mg base N q (defScope sti) f cdv A outer s H) (defBody sti) (tDesk K C (φ be))) : DeskO P w K mg base (k + 1) (runDef φ (dInit be)) x := by
  obtain ⟨C, f, oc, od, kV, doc, pm, an, cdv, ct, osl, lk, ci, M, hm, IK, a1, a2, a3⟩ := D0.ex
  refine ⟨⟨C, f, _, ps, fg_of lk ci S (fun vs H Q h => ?_) (fun A outer s H vs Q hgd hr h => ?_), M, hm, IK, hb kV doc pm an cdv ct⟩, fun d h p e => ?_⟩
  · obtain ⟨y, x, rfl, _⟩ := h
    rw [hp]; rfl
  · obtain ⟨y, x, rfl, Fr, ρ, h, d, dx, H0, eH, ny, nd, ne, r, rd, ok⟩ := h
    have e : L2.start N [.ref y, x] = [some (.ref y), some x, none] := by
      match N, hN with
      | [a, b, c], _ => rfl
    refine ⟨_, body C IK.cl a1 a2 a3 f cdv A outer s H hgd hr, ?_⟩
    rw [e]
    exact ⟨Fr, ρ, h, d, x, y, dx, H0, rfl, eH, ny, nd, ne, r, rd, (dInit_ok ok).mono (fun p q => ⟨q.1, fun σ' ρ' H' fs x2 r2 oy fy hy => q.2.2 ρ' H' fs x2 r2 oy fy hy⟩) fun _ _ z => z⟩
  · rw [dInit_eq] at e
    cases e1 : φ be [d] h with
    | ok q =>
      rw [e1] at e
      have e : (if isNon q.1 = true then R.ok (D.opq 1, q.2) else R.stuck) = .ok p := e
      split at e
      · cases e; rfl
      · cases e
    | exc z h1 => rw [e1] at e; cases e
    | stuck => rw [e1] at e; cases e
theorem makeO_zero {tbl : List (Nat × Def)} {id : Nat} : MakeO P w K mg base 0 (run tbl 0 id) x := ⟨.inl fun _ _ => rfl⟩
theorem makeO_succ {k ini : Nat} {φ : Fn} (O : DeskO P w K mg base k (φ ini) x) : MakeO P w K mg base (k + 1) (runDef φ (dMake ini)) x := ⟨.inr ⟨k, φ ini, rfl, O, fun _ _ => dMake_ok⟩⟩
end
theorem w_make {X : Cx} {φ : Fn} {k : Nat} {x : Str} {p pos : Pos} {e : Expr} {id : Nat} {ce : Ex} (M : MakeO X.prog X.w X.K X.mg X.base k (φ id) x) (hgd : X.A.guards = some []) (hr : Room k X.A) (hg : Gl X x) (he : SE X (EK.none X.K) e (ev φ ce)) (hdb : (x == ("__debug__" : Str)) = false)
    (h1 : starEach [e] X.env = (false, eval e X.env) :: starEach [] X.env) (hpl : (backTo pos (starEach [] X.env)).any (·.1) = false) : SE X (EK.none X.K) (.Call (.Name x p) [e] [] pos) (ev φ (.call id (.cons ce .nil))) := by
  have red : ∀ {σ H Q}, TEk X.K (EK.none X.K) (ev φ (.call id (.cons ce .nil))) σ H Q → TEk X.K (EK.none X.K) (fun s h => (ev φ ce s h).bind fun p => φ id [p.1] p.2) σ H Q := by
    rintro σ H Q ⟨Fr, ρ, s, h, r, sr, ok⟩
    refine ⟨Fr, ρ, s, h, r, sr, ?_⟩
    have ok : okR (Kont X.K Fr ρ H Q) ((EK.none X.K).p Fr ρ H σ) ((evs φ (.cons ce .nil) s h).bind fun (xs, h) => φ id xs h) := by
      conv at ok => unfold ev
      exact ok
    unfold evs at ok
    show okR _ _ ((ev φ ce s h).bind fun p => φ id [p.1] p.2)
    cases e1 : ev φ ce s h with
    | stuck => rw [e1] at ok; exact ok.elim
    | exc z h1 => rw [e1] at ok; exact ok
    | ok q =>
      rw [e1] at ok
      unfold evs at ok
      exact ok
  rcases M.ex with st | ⟨j, g, rfl, O, eg⟩
  · refine ⟨fun pins s σ H Q I t => ?_⟩
    obtain ⟨Fr, ρ, s', h, r, sr, ok⟩ := red t
    exfalso
    have ok : okR (Kont X.K Fr ρ H Q) (fun _ _ => False) ((ev φ ce s' h).bind fun p => φ id [p.1] p.2) := ok
    cases e1 : ev φ ce s' h with
    | stuck => rw [e1] at ok; exact ok
    | exc z h1 => rw [e1] at ok; exact ok
    | ok q =>
      rw [e1] at ok
      have ok : okR (Kont X.K Fr ρ H Q) (fun _ _ => False) (φ id [q.1] q.2) := ok
      rw [st] at ok
      exact ok
  · obtain ⟨C, f, fd, ps, F, Mk, hm, IK, hb⟩ := O.ex
    refine PE.imp (pe_mk Mk F hgd hr hg hm hb (pa_cons he pa_nil h1) hdb h1 hpl) fun σ H Q t => ?_
    refine (t1 (g := fun d h => φ id [d] h) (red t)).kmono fun v H1 ⟨Fr, ρ, h, d, r, d1, ok⟩ => ?_
    intro y dx ny nd ne
    have ok : okR (Kont X.K Fr ρ H1 Q) (fun _ _ => False) (φ id [d] h) := ok
    rw [eg] at ok
    refine ⟨y, v, rfl, Fr, ρ, h, d, dx, H1, rfl, ny, nd, ne, r, d1, ?_⟩
    cases e1 : g [d] h with
    | stuck => rw [e1] at ok; exact ok.elim
    | exc z h1 => rw [e1] at ok; exact ok.elim
    | ok p =>
      rw [e1] at ok
      have e2 := O.ans _ _ _ e1
      refine ⟨e2, fun ρ' H' fs x2 r2 oy fy hy => ⟨rfl, ?_⟩⟩
      have q : Kont X.K Fr ρ H1 Q p := ok
      refine q (.ref y) ρ' H' x2 r2 ?_
      rw [e2]
      unfold RD
      exact ⟨y, rfl, oy, fy, .inr ⟨C, dx, fs, hy, IK⟩⟩
/-- the class's facts, all at once -/
def deskB (K : PySem.W.Frag) (C f : Addr) : Bool :=
  PySem.W.makesIn K C && PySem.W.isFn K (.ref f) && PySem.W.keepIn K (.ref C) && PySem.W.plainGet K C Str.empty && PySem.W.hasDictIn K C && PySem.W.plainOver K C && n4B K C &&
  (PySem.W.takesIn K (.builtin "object.__class__") == some true) && (PySem.W.mroIn K C (.type "object") == some true)
theorem deskIn_by {K : PySem.W.Frag} {mg : Str → Option Value} {sti : Stmt} {q x : Str} {C f : Addr} {oc : Value} {od : Option Addr} {kV doc pm : Value} {an : Option Addr} {cdv ct : Value} {osl : Array (Option Value)} (hm : mg x = some (.ref C)) (hi : PySem.W.findIn K (.ref C) "__init__" = some (some (.ref f)))
    (lk : K.lookup f = some ⟨oc, od, .func (PySem.W.fnOf "__init__" q (defArgs sti) (defBody sti) (defScope sti) .none kV doc pm an cdv ct), osl⟩) (ci : PySem.W.codeIn K cdv q = true) (hB : deskB K C f = true) (sa : PySem.W.findIn K (.ref C) "__setattr__" = some (some (.builtin "object.__setattr__")))
    (ha : PySem.W.findIn K (.ref C) "__class__" = some (some (.builtin "object.__class__"))) (hn : PySem.W.specialIn K (.builtin "object.__class__") "__get__" = some (some (.builtin "getset_descriptor.__get__")))
    (a1 : PySem.W.findIn K (.ref C) "books" = some none) (a2 : PySem.W.findIn K (.ref C) "edits" = some none) (a3 : PySem.W.findIn K (.ref C) "taken_back" = some none) : DeskIn K mg sti q x := by
  unfold deskB at hB
  simp only [Bool.and_eq_true] at hB
  obtain ⟨⟨⟨⟨⟨⟨⟨⟨h1, h2⟩, h3⟩, h4⟩, h5⟩, h6⟩, h7⟩, h8⟩, h9⟩ := hB
  exact ⟨C, f, oc, od, kV, doc, pm, an, cdv, ct, osl, lk, ci, ⟨h1, hi, h2, h3⟩, hm, ⟨⟨h4, h5, h6, sa⟩, ha, hn, eq_of_beq h8, eq_of_beq h9, n4_by h7⟩, a1, a2, a3⟩
end FF

/-! FFTryG: try with any clauses: a class or one over it, a name or none, any suite; isinstance of an error that is kept. -/
namespace FF
open PySem PySem.Spec PyProof.Rows L2
/-- a class that may be raised -/
structure ErrN (K : PySem.W.Frag) (mg : Str → Option Value) (c : String) (C : Addr) : Prop where
  g : mg (Str.ofString c) = some (.ref C)
  n : NameK K c C
  f : fieldy c = true → XfC K C ∧ PySem.W.findIn K (.ref C) (fldOf c) = some none
def ExmOk (K : PySem.W.Frag) (mg : Str → Option Value) (cs : List String) (CF : Addr) (F : String) : Prop := ∀ c ∈ cs, ∀ C, mg (Str.ofString c) = some (.ref C) → PySem.W.exmOne K (.ref C) (.ref CF) = some (subX c F)
inductive HdsOk (X : Cx) (cs : List String) (φ : Fn) : List ExceptHandler → Hds → Prop
  | nil : HdsOk X cs φ [] .nil
  | named {x n : Str} {F : String} {CF : Addr} {i : Nat} {s0 : Stmt} {su : List Stmt} {np hp : Pos} {hds : List ExceptHandler} {b : Sms} {r : Hds} (hi : X.N[i]? = some n) (hln : X.env.kindOf n = some .local) (nm : Names X x (.ref CF))
      (ex : ExmOk X.K X.mg cs CF F)
      (go : ∀ (a : Addr) (pn : List (Addr × Obj)), SB (X.suite a pn) (EK.none X.K) (s0 :: su) (exB φ b)) (t : HdsOk X cs φ hds r) :
      HdsOk X cs φ (.ExceptHandler (some (.Name x np)) (some n) (s0 :: su) hp :: hds) (.cons F (some i) b r)
  | plain {x : Str} {F : String} {CF : Addr} {s0 : Stmt} {su : List Stmt} {np hp : Pos} {hds : List ExceptHandler} {b : Sms} {r : Hds} (nm : Names X x (.ref CF))
      (ex : ExmOk X.K X.mg cs CF F)
      (go : ∀ (a : Addr) (pn : List (Addr × Obj)), SB (X.suite a pn) (EK.none X.K) (s0 :: su) (exB φ b)) (t : HdsOk X cs φ hds r) :
      HdsOk X cs φ (.ExceptHandler (some (.Name x np)) none (s0 :: su) hp :: hds) (.cons F none b r)
section
variable {X : Cx} {pins : List (Addr × Obj)} {σ : L2.St} {H : Hp} {s : Shared}
end
theorem SR.none {K : PySem.W.Frag} {Fr ρ : List Addr} {H : Hp} {s : Env'} {σ : L2.St} (r : SR K Fr ρ H s σ) (i : Nat) : SR K Fr ρ H (s.set i none) (σ.set i none) := by
  refine ⟨by rw [List.length_set, List.length_set]; exact r.len, fun j d e => ?_⟩
  rw [List.getElem?_set] at e
  by_cases h : i = j
  · rw [if_pos h] at e
    split at e <;> cases e
  · rw [if_neg h] at e
    rw [List.getElem?_set, if_neg h]
    exact r.get j d e
/-! ### isinstance of an error that is kept -/
section
variable {X : Cx} {W : EK X.K} {φ : Fn} {pos : Pos}
end
end FF

/-! FFRepr: repr of data with dicts within; {int: int}. -/
namespace FF
open PySem PySem.Spec PyProof.Rows L2
mutual
theorem Dp.nod {K : PySem.W.Frag} {H : Hp} : ∀ (d : PyData) (v : V), Dp K H v d → d.hasDict = false
  | .none, _, _ => rfl
  | .bool _, _, _ => rfl
  | .int _, _, _ => rfl
  | .str _, _, _ => rfl
  | .list ds, _, h => by
    cases h with
    | lst hs ha =>
      rw [PyData.hasDict]
      exact DpAll.nod ds _ ha
  | .tuple ds, _, h => by
    cases h with
    | tup hs ha =>
      rw [PyData.hasDict]
      exact DpAll.nod ds _ ha
  | .dict _, _, h => by cases h
theorem DpAll.nod {K : PySem.W.Frag} {H : Hp} : ∀ (ds : List PyData) (vs : List V), DpAll K H vs ds → PyData.hasDictAll ds = false
  | [], _, _ => rfl
  | d :: ds, _, h => by
    cases h with
    | cons h1 h2 =>
      rw [PyData.hasDictAll, Dp.nod d _ h1, DpAll.nod ds _ h2]
      rfl
end
mutual
/-- data with {} and {int: int} within -/
inductive Rp (K : PySem.W.Frag) (H : Hp) : V → PyData → Prop
  | dat {v : V} {p : PyData} : Dp K H v p → Rp K H v p
  | lst {a : Addr} {xs : List V} {ds : List PyData} : SqL K H a xs → RpAll K H xs ds → Rp K H (.ref a) (.list ds)
  | tup {a : Addr} {xs : List V} {ds : List PyData} : SqT K H a xs → RpAll K H xs ds → Rp K H (.ref a) (.tuple ds)
  | d0 {a : Addr} : H a = some (.dK []) → Rp K H (.ref a) (.dict [])
  | d1 {a : Addr} {i j : Int} : H a = some (.dK [(.inl i, .int j)]) → Rp K H (.ref a) (.dict [(.int i, .int j)])
inductive RpAll (K : PySem.W.Frag) (H : Hp) : List V → List PyData → Prop
  | nil : RpAll K H [] []
  | cons {v : V} {vs : List V} {d : PyData} {ds : List PyData} : Rp K H v d → RpAll K H vs ds → RpAll K H (v :: vs) (d :: ds)
end
section
variable {K : PySem.W.Frag} {Fr ρ : List Addr} {H : Hp}
mutual
theorem RD.rp : ∀ (d : D) (p : PyData) (v : V), D.pyR d = some p → RD K Fr ρ H d v → Rp K H v p
  | .non, _, _, e, r => by unfold D.pyR at e; cases e; unfold RD at r; subst r; exact .dat .non
  | .bl _, _, _, e, r => by unfold D.pyR at e; cases e; unfold RD at r; subst r; exact .dat (.bl _)
  | .int _, _, _, e, r => by unfold D.pyR at e; cases e; unfold RD at r; subst r; exact .dat (.int _)
  | .str _, _, _, e, r => by unfold D.pyR at e; cases e; unfold RD at r; subst r; exact .dat (.str _)
  | .tup ds, _, _, e, r => by
    unfold D.pyR at e
    obtain ⟨ps, e1, rfl⟩ := Option.map_eq_some_iff.mp e
    obtain ⟨a, vs, rfl, s, q⟩ := r.sqT
    exact .tup s (RDs.rps ds ps vs e1 q)
  | .lst ds, _, _, e, r => by
    unfold D.pyR at e
    obtain ⟨ps, e1, rfl⟩ := Option.map_eq_some_iff.mp e
    obtain ⟨a, vs, rfl, s, q⟩ := r.sqL
    exact .lst (.of s) (RDs.rps ds ps vs e1 q)
  | .scr _, _, _, e, _ => by unfold D.pyR at e; cases e
  | .ktp ns, _, _, e, r => by
    unfold D.pyR at e; cases e
    exact .dat (RD.dp (.ktp ns) _ _ (by unfold D.py; rfl) r)
  | .kpp ps, _, _, e, r => by
    unfold D.pyR at e; cases e
    exact .dat (RD.dp (.kpp ps) _ _ (by unfold D.py; rfl) r)
  | .ref _, _, _, e, _ => by unfold D.pyR at e; cases e
  | .dct ds, _, _, e, r => by
    unfold RD at r
    obtain ⟨kvs, q, a, rfl, h, _⟩ := r
    rcases q with ⟨rfl, rfl⟩ | ⟨i, j, rfl, rfl⟩
    · unfold D.pyR at e; cases e; exact .d0 h
    · unfold D.pyR at e; cases e; exact .d1 h
  | .exn _ _, _, _, e, _ => by unfold D.pyR at e; cases e
  | .opq _, _, _, e, _ => by unfold D.pyR at e; cases e
theorem RDs.rps : ∀ (ds : List D) (ps : List PyData) (vs : List V), D.pyRs ds = some ps → RDs K Fr ρ H ds vs → RpAll K H vs ps
  | [], _, _, e, r => by unfold D.pyRs at e; cases e; unfold RDs at r; subst r; exact .nil
  | d :: ds, _, _, e, r => by
    unfold D.pyRs at e
    split at e
    · rename_i a b e1 e2
      cases e
      unfold RDs at r
      obtain ⟨v, t, rfl, k, q⟩ := r
      exact .cons (RD.rp d _ _ e1 k) (RDs.rps ds _ _ e2 q)
    · cases e
end
end
section
variable {X : Cx} {pins : List (Addr × Obj)} {σ : L2.St} {H : Hp} {s : Shared}
/-- a dict of one int, or none, as it lies -/
theorem d0_reads (I : L2.Inv X pins σ H s) {a : Addr} (h : H a = some (.dK [])) : ∃ o n, (a == sysModules) = false ∧ s.heap.get? a = some o ∧ o.cls = .type "dict" ∧ o.data = .dict #[] n := by
  obtain ⟨_, hm, vs, rel, od, es, ep, g1, g2, g3, g4⟩ := dk_of I.hok h
  have ev : vs = [] := by cases rel; rfl
  subst ev
  have ee : es = #[] := by
    have := g4.2.1.length
    simpa using this
  subst ee
  exact ⟨od, ep, hm, g1, g2.1, g3⟩
theorem d1_reads (I : L2.Inv X pins σ H s) {a : Addr} {i j : Int} (h : H a = some (.dK [(.inl i, .int j)])) : ∃ o n e t t2, (a == sysModules) = false ∧ s.heap.get? a = some o ∧ o.cls = .type "dict" ∧ o.data = .dict #[e] n ∧ e.key = .int i t ∧ e.val = .int j t2 := by
  obtain ⟨_, hm, vs, rel, od, es, ep, g1, g2, g3, g4⟩ := dk_of I.hok h
  cases rel with
  | cons h1 h2 =>
    rename_i q qs
    have eq : qs = [] := by cases h2; rfl
    subst eq
    obtain ⟨k, v⟩ := q
    obtain ⟨r1, t2, r2⟩ := h1
    dsimp only at r1 r2
    subst r1 r2
    obtain ⟨l⟩ := es
    have p := g4.2.1
    cases p with
    | cons p1 p2 p3 =>
      cases p3
      obtain ⟨t, e1⟩ := Value.isInt_shape (show Value.isInt i _ = true from p1)
      exact ⟨od, ep, _, t, t2, hm, g1, g2.1, g3, e1, p2⟩
mutual
theorem Rp.reads (I : L2.Inv X pins σ H s) : ∀ (p : PyData) (v : V) (u : Value), Rp X.K H v p → RelV v u → p.showable = true → p.shown.length ≤ sizeLine → (∃ as, Reads s.heap u p as) ∧ ∃ bs, ReadAtMost s.heap p.depth bs ∧ ReprK X.prog X.w bs s.heap p.depth u p.shown
  | p, v, u, .dat h, r, hs, hz => by
    obtain ⟨as, rd⟩ := Dp.reads I p v u h r
    exact ⟨⟨as, rd⟩, ReprK.of_reads rd hs (PyData.noDict_hsm (Dp.nod p v h)) hz⟩
  | .list ds, _, _, .lst hl ha, r, hs, hz => by
    cases r
    obtain ⟨its, rv, ⟨o, n, h1, h2, _, h3⟩, _⟩ := I.list hl
    have hz' : (listText (PyData.shownAll ds)).length ≤ sizeLine := by simpa only [PyData.shown] using hz
    obtain ⟨⟨as, h4⟩, bs, hb, hk⟩ := RpAll.reads I ds _ its ha rv (by simpa [PyData.showable] using hs) (fun t ht => Nat.le_trans (listText_mem_le ht) hz')
    have rd : Reads s.heap (.ref _) (.list ds) _ := .list h1 h2 h3 h4
    have hna := not_mem_of_deeper rd (by simp only [PyData.depth]; omega) hb
    refine ⟨⟨_, rd⟩, _ :: bs, ReadAtMost.cons rd (by simp only [PyData.depth]; omega) hb, ?_⟩
    simp only [PyData.depth, PyData.shown]
    cases its with
    | nil =>
      have h4' : ReadsAll s.heap [] ds _ := h4
      cases h4'
      simp only [PyData.shownAll, listText_nil]
      exact ReprK.listEmpty h1 h2 h3
    | cons x l => exact ReprK.list h1 h2 h3 hna (by simpa using hk.length_eq) (fun i y e => hk.item i y (by simpa using e))
  | .tuple ds, _, _, .tup hl ha, r, hs, hz => by
    cases r
    obtain ⟨its, rv, ⟨o, h1, h2, n, h3⟩, _⟩ := I.tuple hl
    have hz' : (tupleText (PyData.shownAll ds)).length ≤ sizeLine := by simpa only [PyData.shown] using hz
    obtain ⟨⟨as, h4⟩, bs, hb, hk⟩ := RpAll.reads I ds _ its ha rv (by simpa [PyData.showable] using hs) (fun t ht => Nat.le_trans (tupleText_mem_le ht) hz')
    have rd : Reads s.heap (.ref _) (.tuple ds) _ := .tuple h1 h2 h3 h4
    have hna := not_mem_of_deeper rd (by simp only [PyData.depth]; omega) hb
    refine ⟨⟨_, rd⟩, _ :: bs, ReadAtMost.cons rd (by simp only [PyData.depth]; omega) hb, ?_⟩
    simp only [PyData.depth, PyData.shown]
    exact ReprK.tuple h1 h2 h3 hna hk
  | .dict [], _, _, .d0 h, r, hs, hz => by
    cases r
    obtain ⟨o, n, hm, h1, h2, h3⟩ := d0_reads I h
    have rd : Reads s.heap (.ref _) (.dict []) _ := .dict h1 h2 h3 .nil .nil
    refine ⟨⟨_, rd⟩, ReprK.of_reads rd hs (fun _ hx => ?_) hz⟩
    simp at hx
    rw [← hx] at hm
    simp at hm
  | .dict [(.int i, .int j)], _, _, .d1 h, r, hs, hz => by
    cases r
    obtain ⟨o, n, e, t, t2, hm, h1, h2, h3, e1, e2⟩ := d1_reads I h
    have rd : Reads s.heap (.ref _) (.dict [(.int i, .int j)]) _ := .dict h1 h2 h3 (by rw [List.toList_toArray, List.map_cons, e1]; exact .cons (.int i t) .nil) (by rw [List.toList_toArray, List.map_cons, e2]; exact .cons (.int j t2) .nil)
    refine ⟨⟨_, rd⟩, ReprK.of_reads rd hs (fun _ hx => ?_) hz⟩
    simp at hx
    rw [← hx] at hm
    simp at hm
theorem RpAll.reads (I : L2.Inv X pins σ H s) : ∀ (ds : List PyData) (vs : List V) (us : List Value), RpAll X.K H vs ds → Vals vs us → PyData.showableAll ds = true → (∀ t ∈ PyData.shownAll ds, t.length ≤ sizeLine) → (∃ as, ReadsAll s.heap us ds as) ∧ ∃ bs, ReadAtMost s.heap (PyData.depthAll ds) bs ∧ ReprAllK X.prog X.w bs s.heap (PyData.depthAll ds) us (PyData.shownAll ds)
  | [], _, _, .nil, r, _, _ => by
    cases r
    exact ⟨⟨_, .nil⟩, [], (fun _ h => nomatch h), by simp only [PyData.shownAll]; exact .nil⟩
  | d :: ds, _, _, .cons h1 h2, r, hs, hz => by
    cases r with
    | cons r1 r2 =>
      have hs' : d.showable = true ∧ PyData.showableAll ds = true := by simpa [PyData.showableAll] using hs
      obtain ⟨⟨as1, q1⟩, b1, hb1, k1⟩ := Rp.reads I d _ _ h1 r1 hs'.1 (hz _ (by simp only [PyData.shownAll]; exact List.mem_cons_self ..))
      obtain ⟨⟨as2, q2⟩, b2, hb2, k2⟩ := RpAll.reads I ds _ _ h2 r2 hs'.2 (fun t ht => hz t (by simp only [PyData.shownAll]; exact List.mem_cons_of_mem _ ht))
      refine ⟨⟨_, .cons q1 q2⟩, b1 ++ b2, ?_, ?_⟩
      · intro b hm
        simp only [PyData.depthAll]
        rcases List.mem_append.mp hm with hm | hm
        · obtain ⟨d', as', r', hd'⟩ := hb1 b hm
          exact ⟨d', as', r', Nat.le_trans hd' (Nat.le_max_left _ _)⟩
        · obtain ⟨d', as', r', hd'⟩ := hb2 b hm
          exact ⟨d', as', r', Nat.le_trans hd' (Nat.le_max_right _ _)⟩
      · simp only [PyData.depthAll, PyData.shownAll]
        exact .cons ((k1.more fun b hb => List.mem_append_left _ hb).level_le (Nat.le_max_left _ _)) (k2.more_le (fun b hb => List.mem_append_right _ hb) (Nat.le_max_right _ _))
end
end
/-- repr of such data -/
theorem call_reprR {X : Cx} (hg : X.A.guards = some []) (hu : X.A.units + 128 < cLine) : CallR X (.builtin "repr") (fun xs H Q => ∃ x p, xs = [x] ∧ Rp X.K H x p ∧ showX p = true ∧ Q (.str p.shown) H) := by
  intro pins s σ H xs us Q I r h
  obtain ⟨x, p, rfl, hd, hs, q⟩ := h
  obtain ⟨u, rfl, r1⟩ := vals1 r
  have hs0 := hs
  unfold showX at hs
  simp only [Bool.and_eq_true, decide_eq_true_eq] at hs
  obtain ⟨⟨h1, h3⟩, h4⟩ := hs
  have hz := lineOk_le h4
  have dat : ∀ as, Reads s.heap u p as → p.hasDict = false → wpAny (model X.prog X.w) X.A (call (.builtin "repr") [u]) (EP X pins σ Q) X.xe s := fun as rd hn => by
    cases rd with
    | none => exact PySem.P.repr_of_none ⟨.str _, H, I.tok _, ⟨_, rfl⟩, by simpa only [PyData.shown] using q⟩
    | bool b => exact PySem.P.repr_of_bool ⟨.str _, H, I.tok _, ⟨_, rfl⟩, by simpa only [PyData.shown] using q⟩
    | int i t => exact PySem.P.repr_of_int (by simpa [PyData.showable] using h1) ⟨.str _, H, I.tok _, ⟨_, rfl⟩, by simpa only [PyData.shown] using q⟩
    | str y t => exact PySem.P.repr_of_str ⟨.str _, H, I.tok _, ⟨_, rfl⟩, by simpa only [PyData.shown] using q⟩ (by simpa only [PyData.shown] using hz)
    | list a1 a2 a3 a4 => exact repr_of_reads' (.list a1 a2 a3 a4) h1 (PyData.noDict_hsm hn) hg (by omega) (fun _ _ e => e) (fun h' t tk hk => ⟨.str _, H, I.kept hk, ⟨t, rfl⟩, q⟩) hz
    | tuple a1 a2 a3 a4 => exact repr_of_reads' (.tuple a1 a2 a3 a4) h1 (PyData.noDict_hsm hn) hg (by omega) (fun _ _ e => e) (fun h' t tk hk => ⟨.str _, H, I.kept hk, ⟨t, rfl⟩, q⟩) hz
    | dict => rw [PyData.hasDict] at hn; cases hn
  cases hd with
  | dat h =>
    obtain ⟨as, rd⟩ := Dp.reads I p x u h r1
    exact dat as rd (Dp.nod p x h)
  | @lst a xs ds hl ha =>
    cases r1
    obtain ⟨its, rv, ⟨o, n, g1, g2, _, g3⟩, _⟩ := I.list hl
    have hz' : (listText (PyData.shownAll ds)).length ≤ sizeLine := by simpa only [PyData.shown] using hz
    obtain ⟨⟨as, g4⟩, bs, hb, hk⟩ := RpAll.reads I ds _ its ha rv (by simpa [PyData.showable] using h1) (fun t ht => Nat.le_trans (listText_mem_le ht) hz')
    have rd : Reads s.heap (.ref a) (.list ds) _ := .list g1 g2 g3 g4
    have hna := not_mem_of_deeper rd (by simp only [PyData.depth]; omega) hb
    simp only [PyData.depth] at h3
    simp only [PyData.shown] at q
    have S : call (.builtin "repr") [Value.ref a] = call (.builtin "repr") [Value.ref a] := rfl
    cases its with
    | nil =>
      have g4' : ReadsAll s.heap [] ds _ := g4
      cases g4'
      exact dat _ rd (by rw [PyData.hasDict]; rfl)
    | cons x l =>
      refine call_repr_slot (by omega) ⟨o, g1, g2⟩ F.slot_list_repr.toG ?_
      refine call_list_reprK g1 g2 g3 hna (by simpa using hk.length_eq) (fun i y e => hk.item i y (by simpa using e)) hg (fun b _ => Clear.nil b) (by show X.A.units + 1 + _ < cLine; omega) (fun _ _ e => e) (fun h' t tk hk => ?_) hz'
      exact ⟨_, _, rfl, ⟨.str _, H, I.kept hk, ⟨t, rfl⟩, q⟩⟩
  | @tup a xs ds hl ha =>
    cases r1
    obtain ⟨its, rv, ⟨o, g1, g2, n, g3⟩, _⟩ := I.tuple hl
    have hz' : (tupleText (PyData.shownAll ds)).length ≤ sizeLine := by simpa only [PyData.shown] using hz
    obtain ⟨⟨as, g4⟩, bs, hb, hk⟩ := RpAll.reads I ds _ its ha rv (by simpa [PyData.showable] using h1) (fun t ht => Nat.le_trans (tupleText_mem_le ht) hz')
    have rd : Reads s.heap (.ref a) (.tuple ds) _ := .tuple g1 g2 g3 g4
    have hna := not_mem_of_deeper rd (by simp only [PyData.depth]; omega) hb
    simp only [PyData.depth] at h3
    simp only [PyData.shown] at q
    refine call_repr_slot (by omega) ⟨o, g1, g2⟩ F.slot_tuple_repr ?_
    refine call_tuple_reprK g1 g2 g3 hna hk hg (fun b _ => Clear.nil b) (by show X.A.units + 1 + _ < cLine; omega) (fun _ _ e => e) (fun h' t tk hk => ?_) hz'
    exact ⟨_, _, rfl, ⟨.str _, H, I.kept hk, ⟨t, rfl⟩, q⟩⟩
  | d0 h =>
    cases r1
    obtain ⟨o, n, hm, g1, g2, g3⟩ := d0_reads I h
    have rd : Reads s.heap (.ref _) (.dict []) _ := .dict g1 g2 g3 .nil .nil
    refine repr_of_reads' rd h1 (fun _ hx => ?_) hg (by omega) (fun _ _ e => e) (fun h' t tk hk => ⟨.str _, H, I.kept hk, ⟨t, rfl⟩, q⟩) hz
    simp at hx
    rw [← hx] at hm
    simp at hm
  | d1 h =>
    cases r1
    obtain ⟨o, n, e, t, t2, hm, g1, g2, g3, e1, e2⟩ := d1_reads I h
    have rd : Reads s.heap (.ref _) (.dict [(.int _, .int _)]) _ := .dict g1 g2 g3 (by rw [List.toList_toArray, List.map_cons, e1]; exact .cons (.int _ t) .nil) (by rw [List.toList_toArray, List.map_cons, e2]; exact .cons (.int _ t2) .nil)
    refine repr_of_reads' rd h1 (fun _ hx => ?_) hg (by omega) (fun _ _ e => e) (fun h' t tk hk => ⟨.str _, H, I.kept hk, ⟨t, rfl⟩, q⟩) hz
    simp at hx
    rw [← hx] at hm
    simp at hm
theorem cb_reprR {X : Cx} (hg : X.A.guards = some []) (hu : X.A.units + 128 < cLine) : CallR X (.builtin "repr") (rDs X.K (un1 reprVD)) := by
  refine cb1 (call_reprR hg hu) fun x H Q Fr ρ h d p r d1 q k => ?_
  unfold reprVD at q
  split at q
  · rename_i p hp
    split at q
    · rename_i hs
      cases q
      exact ⟨x, p, rfl, RD.rp _ _ _ hp d1, hs, k.same r (rd_str.mpr rfl)⟩
    · cases q
  · cases q
section
variable {X : Cx} {φ : Fn} {pos : Pos}
/-- {a: b}, of two ints -/
theorem w_dct1 {e1 e2 : Expr} {c1 c2 : Ex} {live : Bool} (h1 : SE X (EK.none X.K) e1 (ev φ c1)) (h2 : SE X (EK.none X.K) e2 (ev φ c2)) : SE X (EK.none X.K) (.Dict [some e1] [e2] pos) (ev φ (.bi .dct1 live (.cons c1 (.cons c2 .nil)))) := by
  have hp : PPs X pos [some e1] [e2] (trsOf X.K (prs φ (.cons c1 (.cons c2 .nil)))) := w_pcons h1 h2 w_pnil
  refine PE.imp (pe_disp hp rfl rfl (by simp) (by simp)) fun σ H Q ⟨Fr, ρ, s, h, r, sr, ok⟩ p hp => ?_
  have hf : ∀ a ∈ p :: Fr, a ∈ Fr ∨ H a = none := fun a ha => (List.mem_cons.mp ha).elim (fun e => .inr (e ▸ hp)) .inl
  have x0 : Ext ρ H ρ (upd H p (.dK [])) := ext_new hp
  have nf := r.fresh hp
  have ok : okR (Kont X.K Fr ρ H Q) (fun _ _ => False) ((evs φ (.cons c1 (.cons c2 .nil)) s h).bind fun (ds, h) => lift (biD .dct1 live ds h)) := by
    conv at ok => unfold ev
    exact ok
  rw [prs_seq φ _ rfl] at ok
  refine pairs_t (prs φ (.cons c1 (.cons c2 .nil))) σ _ _ (p :: Fr) ρ s h (r.aside hp) ((sr.fr hf).mono x0) ((okR_bind.mp ok).mono (fun q ok ps ρ1 H1 x1 r1 d1 => ?_) fun _ _ z => z)
  obtain ⟨y, e, k⟩ := okR_lift ok
  have hp1 : H1 p = some (.dK []) := x1.keep p _ nf.1 upd_same
  refine ⟨hp1, ?_⟩
  obtain ⟨ds, hd⟩ := q
  have e : un2 dct1D ds hd = some y := e
  unfold un2 at e
  split at e
  · unfold dct1D at e
    split at e
    · rename_i i j e0
      cases e
      have d1 : RDs X.K (p :: Fr) ρ1 H1 [.int i, .int j] (flat2 ps) := d1
      have eps : ps = [(.int i, .int j)] := by
        unfold RDs at d1
        obtain ⟨v, t1, z1, k1, d1⟩ := d1
        unfold RDs at d1
        obtain ⟨w, t2, z2, k2, d1⟩ := d1
        unfold RDs at d1
        subst d1 z2
        rw [rd_int.mp k1, rd_int.mp k2] at z1
        cases ps with
        | nil => cases z1
        | cons q ps =>
          obtain ⟨q1, q2⟩ := q
          have z1 : q1 :: q2 :: flat2 ps = [.int i, .int j] := z1
          injection z1 with a1 z1
          injection z1 with a2 z1
          cases ps with
          | nil => rw [a1, a2]
          | cons _ _ => cases z1
      subst eps
      refine ⟨[(.inl i, .int j)], rfl, by simp, ?_⟩
      have hpF : p ∈ p :: Fr := List.mem_cons_self
      have r2 := (r1.alt (o := .dK (mergeK [] [(.inl i, .int j)])) hpF rfl hp1).back (Fr' := Fr) fun a ha => List.mem_cons_of_mem _ ha
      have nρ : p ∉ ρ1 := fun z => r1.dj p z hpF
      refine k _ ρ1 _ ⟨?_, fun a o n e ht => ?_⟩ r2 ?_
      · obtain ⟨m, em, hm⟩ := x1.more
        refine ⟨m, em, fun a ha o ho => ?_⟩
        have := hm a ha o
        by_cases e : a = p
        · rw [e, hp] at ho; cases ho
        · rw [upd_ne e] at this; exact this ho
      · have hne : a ≠ p := ne_of_none e hp
        rw [upd_ne hne]
        exact x1.keep a o n (by rw [upd_ne hne]; exact e) ht
      · unfold RD
        exact ⟨[(.inl i, .int j)], .inr ⟨i, j, rfl, rfl⟩, p, rfl, upd_same, nρ, nf.2⟩
    · cases e
  · cases e
end
/-- f() -/
theorem w_call0 {X : Cx} {φ : Fn} {pos : Pos} {k : Nat} {st : Stmt} {x : Str} {p : Pos} {id : Nat} (C : Cal X.prog X.w X.K X.mg X.base k (φ id) st x []) (hgd : X.A.guards = some []) (hr : Room k X.A) (hg : Gl X x)
    (hb : ∀ (kV doc pm : Value) (an : Option Addr) (cdv ct : Value), bindArgs (PySem.W.fnOf x x (defArgs st) (defBody st) (defScope st) .none kV doc pm an cdv ct) ⟨[], []⟩ = pure []) (hdb : (x == ("__debug__" : Str)) = false) :
    SE X (EK.none X.K) (.Call (.Name x p) [] [] pos) (ev φ (.call id .nil)) := by
  obtain ⟨f, kV, doc, pm, an, cdv, ct, F, hm, hk⟩ := C.ex
  exact PE.imp (pe_fg0 F hgd hr hg hm hk (hb _ _ _ _ _ _) rfl hdb) fun σ H Q ⟨Fr, ρ, s, h, r, sr, ok⟩ => ⟨Fr, ρ, h, [], r, RDs.nil, ok⟩
end FF

/-! FFMath: reckoning with the evaluator. -/
namespace FF
open PySem PySem.Spec L2
/-- r ends well, as P says -/
def Wp {α : Type} (r : R α) (P : α → Prop) : Prop := ∃ a, r = .ok a ∧ P a
theorem Wp.ok {α : Type} {a : α} {P : α → Prop} (h : P a) : Wp (.ok a) P := ⟨a, rfl, h⟩
theorem Wp.bind {α β : Type} {r : R α} {f : α → R β} {P : β → Prop} (h : Wp r fun a => Wp (f a) P) : Wp (r.bind f) P := by
  obtain ⟨a, rfl, b, e, q⟩ := h
  exact ⟨b, e, q⟩
theorem Wp.mono {α : Type} {r : R α} {P Q : α → Prop} (h : Wp r P) (i : ∀ a, P a → Q a) : Wp r Q := let ⟨a, e, q⟩ := h; ⟨a, e, i a q⟩
theorem Wp.of_eq {α : Type} {r r' : R α} {P : α → Prop} (h : Wp r' P) (e : r = r') : Wp r P := e ▸ h
theorem Wp.hush {α : Type} {r : R α} {P : α → Prop} (h : Wp r P) : Wp (FF.hush r) P := by
  obtain ⟨a, rfl, q⟩ := h
  exact ⟨a, rfl, q⟩
/-- a for: the invariant by the turn -/
theorem wp_loopF {w : Watch} {step : D → Env' → Hq → R Fl} {Q : Fl → Prop} (I : Nat → Env' → Hq → Prop) : ∀ (xs : List D) (k : Nat) (s : Env') (h : Hq), I k s h →
    (∀ i d s h, xs[i]? = some d → I (k + i) s h → stands h w = true ∧ Wp (step d s h) fun
      | .nx s h => I (k + i + 1) s h
      | .ct s h => I (k + i + 1) s h
      | .bk s h => Q (.nx s h)
      | .rt d h => Q (.rt d h)) →
    (∀ s h, I (k + xs.length) s h → stands h w = true ∧ Q (.nx s h)) → Wp (loopF w step xs s h) Q
  | [], k, s, h, i0, _, fin => by
    obtain ⟨a, b⟩ := fin s h i0
    unfold loopF
    rw [if_pos a]
    exact .ok b
  | x :: xs, k, s, h, i0, st, fin => by
    obtain ⟨a, b⟩ := st 0 x s h rfl i0
    unfold loopF
    rw [if_pos a]
    refine .bind (b.mono fun f q => ?_)
    have go : ∀ s h, I (k + 1) s h → Wp (loopF w step xs s h) Q := fun s h j => wp_loopF I xs (k + 1) s h j
      (fun i d s h e z => by
        have := st (i + 1) d s h e (by rw [show k + (i + 1) = k + 1 + i by omega]; exact z)
        rw [show k + (i + 1) = k + 1 + i by omega] at this
        exact this)
      (fun s h z => fin s h (by rw [List.length_cons, show k + (xs.length + 1) = k + 1 + xs.length by omega]; exact z))
    cases f with
    | nx s h => exact go s h q
    | ct s h => exact go s h q
    | bk s h => exact .ok q
    | rt d h => exact .ok q
/-- a comprehension's turns, the invariant by the turn -/
theorem wp_turns {w : Watch} {step : D → Hq → R (Option D × Hq)} {Q : List D × Hq → Prop} (I : Nat → List D → Hq → Prop) : ∀ (xs : List D) (k : Nat) (acc : List D) (h : Hq), I k acc h →
    (∀ i d acc h, xs[i]? = some d → I (k + i) acc h → stands h w = true ∧ acc.length + 1 ≤ 16777216 ∧ Wp (step d h) fun r => I (k + i + 1) (match r.1 with | some y => acc ++ [y] | none => acc) r.2) →
    (∀ acc h, I (k + xs.length) acc h → stands h w = true ∧ Q (acc, h)) → Wp (turns w step xs acc h) Q
  | [], k, acc, h, i0, _, fin => by
    obtain ⟨a, b⟩ := fin acc h i0
    unfold turns
    rw [if_pos a]
    exact .ok b
  | x :: xs, k, acc, h, i0, st, fin => by
    obtain ⟨a, l, b⟩ := st 0 x acc h rfl i0
    unfold turns
    rw [if_pos a]
    refine .bind (b.mono fun f q => ?_)
    rw [show lineOk (acc.length + 1) = true from decide_eq_true l, if_pos rfl]
    exact wp_turns I xs (k + 1) _ f.2 q
      (fun i d acc h e z => by
        have := st (i + 1) d acc h e (by rw [show k + (i + 1) = k + 1 + i by omega]; exact z)
        rw [show k + (i + 1) = k + 1 + i by omega] at this
        exact this)
      (fun acc h z => fin acc h (by rw [List.length_cons, show k + (xs.length + 1) = k + 1 + xs.length by omega]; exact z))
/-! ### trees that are shown -/
mutual
def D.Good (k : Nat) : D → Prop
  | .non => True
  | .bl _ => True
  | .int i => i.natAbs < 10 ^ k
  | .str s => ∀ c ∈ s.cps.toList, c < 16 ^ 8
  | .tup ds => D.Goods k ds
  | .lst ds => D.Goods k ds
  | .ktp ns => ∀ i ∈ ns, i.natAbs < 10 ^ k
  | _ => False
def D.Goods (k : Nat) : List D → Prop
  | [] => True
  | d :: ds => D.Good k d ∧ D.Goods k ds
end
mutual
def D.bulk : D → Nat
  | .str s => s.cps.size
  | .tup ds => D.bulks ds
  | .lst ds => D.bulks ds
  | .ktp ns => ns.length
  | _ => 0
def D.bulks : List D → Nat
  | [] => 0
  | d :: ds => D.bulk d + 1 + D.bulks ds
end
mutual
def D.deepn : D → Nat
  | .tup ds => D.deepns ds + 1
  | .lst ds => D.deepns ds + 1
  | .ktp _ => 1
  | _ => 0
def D.deepns : List D → Nat
  | [] => 0
  | d :: ds => max (D.deepn d) (D.deepns ds)
end
/-- its tree -/
structure PyOf (k : Nat) (d : D) (p : PyData) : Prop where
  py : D.py d = some p
  short : p.leavesShort (k + 1) = true
  show' : p.showable = true
  nod : p.hasDict = false
  bulk : p.bulk = d.bulk
  deep : p.depth = d.deepn
structure PysOf (k : Nat) (d : List D) (p : List PyData) : Prop where
  py : D.pys d = some p
  short : PyData.leavesShortAll (k + 1) p = true
  show' : PyData.showableAll p = true
  nod : PyData.hasDictAll p = false
  bulk : PyData.bulkAll p = D.bulks d
  deep : PyData.depthAll p = D.deepns d
theorem int_py {k : Nat} (hk : 0 < k) (hk2 : k ≤ 500) {i : Int} (g : i.natAbs < 10 ^ k) : PyOf k (.int i) (.int i) := by
  refine ⟨by unfold D.py; rfl, ?_, ?_, rfl, rfl, rfl⟩
  · unfold PyData.leavesShort
    refine decide_eq_true ?_
    have := int_text_length_le10 hk g
    show (Str.ofString (toString i)).length ≤ k + 1
    rw [ofString_length]; exact this
  · unfold PyData.showable
    refine decide_eq_true ?_
    by_cases z : i.natAbs = 0
    · rw [z]; decide
    · refine (Nat.log2_lt z).mpr (Nat.lt_of_lt_of_le g ?_)
      calc 10 ^ k ≤ 10 ^ 500 := Nat.pow_le_pow_right (by decide) hk2
        _ ≤ 2 ^ 1920 := by decide +kernel
theorem ints_py {k : Nat} (hk : 0 < k) (hk2 : k ≤ 500) : ∀ ns : List Int, (∀ i ∈ ns, i.natAbs < 10 ^ k) → PyData.leavesShortAll (k + 1) (ns.map .int) = true ∧ PyData.showableAll (ns.map .int) = true ∧ PyData.hasDictAll (ns.map .int) = false ∧ PyData.bulkAll (ns.map .int) = ns.length ∧ PyData.depthAll (ns.map .int) = 0
  | [], _ => ⟨rfl, rfl, rfl, rfl, rfl⟩
  | n :: ns, g => by
    obtain ⟨q1, q2, q3, q4, q5⟩ := ints_py hk hk2 ns fun i hi => g i (List.mem_cons_of_mem _ hi)
    have p := int_py hk hk2 (g n List.mem_cons_self)
    refine ⟨?_, ?_, ?_, ?_, ?_⟩
    · rw [List.map_cons]; unfold PyData.leavesShortAll; rw [p.short, q1]; rfl
    · rw [List.map_cons]; unfold PyData.showableAll; rw [p.show', q2]; rfl
    · rw [List.map_cons]; unfold PyData.hasDictAll; rw [p.nod, q3]; rfl
    · rw [List.map_cons]; unfold PyData.bulkAll; rw [p.bulk, q4, D.bulk, List.length_cons]
      all_goals first | omega | simp
    · rw [List.map_cons]; unfold PyData.depthAll; rw [p.deep, q5, D.deepn]
      all_goals simp
mutual
theorem good_py {k : Nat} (hk : 0 < k) (hk2 : k ≤ 500) : ∀ d : D, d.Good k → ∃ p, PyOf k d p
  | .non, _ => ⟨.none, by unfold D.py; rfl, rfl, rfl, rfl, rfl, rfl⟩
  | .bl b, _ => ⟨.bool b, by unfold D.py; rfl, rfl, rfl, rfl, rfl, rfl⟩
  | .int i, g => by
    unfold D.Good at g
    refine ⟨.int i, by unfold D.py; rfl, ?_, ?_, rfl, rfl, rfl⟩
    · unfold PyData.leavesShort
      refine decide_eq_true ?_
      have := int_text_length_le10 hk g
      show (Str.ofString (toString i)).length ≤ k + 1
      rw [ofString_length]; exact this
    · unfold PyData.showable
      refine decide_eq_true ?_
      by_cases z : i.natAbs = 0
      · rw [z]; decide
      · refine (Nat.log2_lt z).mpr (Nat.lt_of_lt_of_le g ?_)
        calc 10 ^ k ≤ 10 ^ 500 := Nat.pow_le_pow_right (by decide) hk2
          _ ≤ 2 ^ 1920 := by decide +kernel
  | .str s, g => by
    unfold D.Good at g
    refine ⟨.str s, by unfold D.py; rfl, ?_, rfl, rfl, rfl, rfl⟩
    unfold PyData.leavesShort
    exact List.all_eq_true.mpr fun c hc => decide_eq_true (g c hc)
  | .tup ds, g => by
    unfold D.Good at g
    obtain ⟨ps, q⟩ := goods_py hk hk2 ds g
    exact ⟨.tuple ps, by unfold D.py; rw [q.py]; rfl, q.short, q.show', q.nod, q.bulk, by unfold PyData.depth D.deepn; rw [q.deep]⟩
  | .lst ds, g => by
    unfold D.Good at g
    obtain ⟨ps, q⟩ := goods_py hk hk2 ds g
    exact ⟨.list ps, by unfold D.py; rw [q.py]; rfl, q.short, q.show', q.nod, q.bulk, by unfold PyData.depth D.deepn; rw [q.deep]⟩
  | .scr _, g => g.elim
  | .ktp ns, g => by
    unfold D.Good at g
    obtain ⟨q1, q2, q3, q4, q5⟩ := ints_py hk hk2 ns g
    refine ⟨.tuple (ns.map .int), by unfold D.py; rfl, q1, q2, q3, ?_, ?_⟩
    · show PyData.bulkAll (ns.map .int) = _
      unfold D.bulk; exact q4
    · show PyData.depthAll (ns.map .int) + 1 = _
      unfold D.deepn; rw [q5]
  | .kpp _, g => g.elim
  | .ref _, g => g.elim
  | .dct _, g => g.elim
  | .exn _ _, g => g.elim
  | .opq _, g => g.elim
theorem goods_py {k : Nat} (hk : 0 < k) (hk2 : k ≤ 500) : ∀ ds : List D, D.Goods k ds → ∃ p, PysOf k ds p
  | [], _ => ⟨[], by unfold D.pys; rfl, rfl, rfl, rfl, rfl, rfl⟩
  | d :: ds, g => by
    unfold D.Goods at g
    obtain ⟨p, q⟩ := good_py hk hk2 d g.1
    obtain ⟨ps, qs⟩ := goods_py hk hk2 ds g.2
    refine ⟨p :: ps, by unfold D.pys; rw [q.py, qs.py], ?_, ?_, ?_, ?_, ?_⟩
    · unfold PyData.leavesShortAll; rw [q.short, qs.short]; rfl
    · unfold PyData.showableAll; rw [q.show', qs.show']; rfl
    · unfold PyData.hasDictAll; rw [q.nod, qs.nod]; rfl
    · unfold PyData.bulkAll D.bulks; rw [q.bulk, qs.bulk]
    · unfold PyData.depthAll D.deepns; rw [q.deep, qs.deep]
end
mutual
theorem good_melt {k : Nat} {g : List D → Option (List D)} {h : Hq} : ∀ d : D, d.Good k → D.melt g h d = some d
  | .non, _ => by unfold D.melt; rfl
  | .bl _, _ => by unfold D.melt; rfl
  | .int _, _ => by unfold D.melt; rfl
  | .str _, _ => by unfold D.melt; rfl
  | .tup ds, q => by unfold D.Good at q; unfold D.melt; rw [goods_melt ds q]; rfl
  | .lst ds, q => by unfold D.Good at q; unfold D.melt; rw [goods_melt ds q]; rfl
  | .scr _, g => g.elim
  | .ktp _, _ => by unfold D.melt; rfl
  | .kpp _, g => g.elim
  | .ref _, g => g.elim
  | .dct _, g => g.elim
  | .exn _ _, g => g.elim
  | .opq _, g => g.elim
theorem goods_melt {k : Nat} {g : List D → Option (List D)} {h : Hq} : ∀ ds : List D, D.Goods k ds → D.melts g h ds = some ds
  | [], _ => by unfold D.melts; rfl
  | d :: ds, q => by unfold D.Goods at q; unfold D.melts; rw [good_melt d q.1, goods_melt ds q.2]
end
/-- its text -/
def D.shown (d : D) : Str := match D.py d with | some p => p.shown | none => ""
theorem repr_good {k : Nat} {d : D} (h : Hq) (g : d.Good k) (hk : 0 < k) (hk2 : k ≤ 500) (hb : (k + 3) * d.bulk + (k + 1) ≤ 16777216) (hd : d.deepn ≤ 64) (h8 : 8 ≤ k + 1) : reprD d h = some (.str d.shown, h) := by
  obtain ⟨p, q⟩ := good_py hk hk2 d g
  have m : melt1 h d = some d := by
    unfold melt1 meltN
    rw [goods_melt (k := k) [d] (by unfold D.Goods; exact ⟨g, by unfold D.Goods; trivial⟩)]
  have e : pyOf h d = some p := by unfold pyOf; rw [m]; exact q.py
  unfold reprD
  rw [e]
  have ok : showOk p = true := by
    unfold showOk lineOk
    rw [q.show', q.nod]
    have := PyData.shown_le_bulk (k + 1) h8 p q.short
    rw [q.bulk] at this
    simp only [Bool.not_false, Bool.true_and, Bool.and_eq_true, decide_eq_true_eq]
    exact ⟨by rw [q.deep]; exact hd, Nat.le_trans this (by rw [show k + 1 + 2 = k + 3 by omega]; exact hb)⟩
  show (if showOk p then some (D.str p.shown, h) else none) = _
  rw [if_pos ok]
  unfold D.shown
  rw [q.py]
/-! ### turns over things that are mapped -/
/-- a comprehension with a test or without, whose parts change nothing -/
theorem wp_fmap {α : Type} {w : Watch} {step : D → Hq → R (Option D × Hq)} {Q : List D × Hq → Prop} {h : Hq} (f : α → D) (g : α → Option D) (as : List α) (hw : stands h w = true) (hl : as.length ≤ 16777216)
    (hs : ∀ a ∈ as, Wp (step (f a) h) fun r => r = (g a, h)) (q : Q (as.filterMap g, h)) : Wp (turns w step (as.map f) [] h) Q := by
  refine wp_turns (fun k acc h' => acc = (as.take k).filterMap g ∧ h' = h) _ 0 _ _ ⟨rfl, rfl⟩ ?_ ?_
  · rintro i d acc h' e ⟨rfl, rfl⟩
    rw [List.getElem?_map] at e
    cases q : as[i]? with
    | none => rw [q] at e; cases e
    | some a =>
      rw [q] at e; cases e
      have hi := (List.getElem?_eq_some_iff.mp q).1
      have l1 := List.length_filterMap_le g (as.take (0 + i))
      rw [List.length_take] at l1
      refine ⟨hw, by omega, (hs a (List.mem_of_getElem? q)).mono ?_⟩
      rintro _ rfl
      rw [Nat.zero_add, List.take_add_one, q, List.filterMap_append]
      cases g' : g a with
      | none => simp [g']
      | some y => simp [g']
  · rintro acc h' ⟨rfl, rfl⟩
    rw [Nat.zero_add, List.length_map, List.take_length]
    exact ⟨hw, q⟩
/-- a while: an invariant and what falls -/
theorem wp_loopW {test : Env' → Hq → R (Bool × Hq)} {step : Env' → Hq → R Fl} {Q : Fl → Prop} (I : Env' → Hq → Nat → Prop)
    (st : ∀ s h m, I s h m → Wp (test s h) fun p => (p.1 = false ∧ Q (.nx s p.2)) ∨ (p.1 = true ∧ Wp (step s p.2) fun
      | .nx s h => ∃ m', m' < m ∧ I s h m'
      | .ct s h => ∃ m', m' < m ∧ I s h m'
      | .bk s h => Q (.nx s h)
      | .rt d h => Q (.rt d h))) : ∀ (n m : Nat) (s : Env') (h : Hq), m < n → I s h m → Wp (loopW test step n s h) Q
  | 0, m, s, h, l, _ => absurd l (Nat.not_lt_zero _)
  | n + 1, m, s, h, l, i => by
    unfold loopW
    refine .bind ((st s h m i).mono ?_)
    rintro ⟨b, h1⟩ (⟨rfl, q⟩ | ⟨rfl, w⟩)
    · exact .ok q
    · refine .bind (w.mono fun fl q => ?_)
      cases fl with
      | nx s h => obtain ⟨m', l', j⟩ := q; exact wp_loopW I st n m' s h (by omega) j
      | ct s h => obtain ⟨m', l', j⟩ := q; exact wp_loopW I st n m' s h (by omega) j
      | bk s h => exact .ok q
      | rt d h => exact .ok q
end FF

/-! FFWp: step by step through a core text. -/
namespace FF
open PySem PySem.Spec L2
def OkO {α : Type} (o : Option α) (P : α → Prop) : Prop := ∃ a, o = some a ∧ P a
def Cd (c : Bool) (A B : Prop) : Prop := (c = true → A) ∧ (c = false → B)
theorem OkO.of {α : Type} {o : Option α} {a : α} {P : α → Prop} (e : o = some a) (p : P a) : OkO o P := ⟨a, e, p⟩
theorem Cd.tt {A B : Prop} (a : A) : Cd true A B := ⟨fun _ => a, fun z => Bool.noConfusion z⟩
theorem Cd.ff {A B : Prop} (b : B) : Cd false A B := ⟨fun z => Bool.noConfusion z, fun _ => b⟩
theorem Wp.lift {α : Type} {o : Option α} {P : α → Prop} (h : OkO o P) : Wp (FF.lift o) P := let ⟨a, e, p⟩ := h; ⟨a, by rw [e]; rfl, p⟩
section
variable {φ : Fn} {s : Env'} {h : Hq} {P : D × Hq → Prop} {PA : List D × Hq → Prop} {PO : Option Int × Hq → Prop} {PB : Bool × Hq → Prop} {PI : Its' → Prop} {PF : Fl → Prop}
theorem x_var {i : Nat} {d : D} (e : s[i]? = some (some d)) (p : P (d, h)) : Wp (ev φ (.var i) s h) P := ⟨(d, h), by unfold ev; rw [e], p⟩
theorem x_const {d : D} (p : P (d, h)) : Wp (ev φ (.const d) s h) P := ⟨(d, h), by unfold ev; rfl, p⟩
theorem x_glob {x : Str} {d : D} (p : P (d, h)) : Wp (ev φ (.glob x d) s h) P := ⟨(d, h), by unfold ev; rfl, p⟩
theorem x_bin {op : Operator} {live : Bool} {a b : Ex} (w : Wp (ev φ a s h) fun (x, h1) => Wp (ev φ b s h1) fun (y, h2) => OkO (binop op live x y h2) P) : Wp (ev φ (.bin op live a b) s h) P := by
  unfold ev; exact .bind (w.mono fun ⟨_, _⟩ w => .bind (w.mono fun ⟨_, _⟩ w => .lift w))
theorem x_neg {a : Ex} (w : Wp (ev φ a s h) fun (x, h1) => OkO (negD x h1) P) : Wp (ev φ (.neg a) s h) P := by unfold ev; exact .bind (w.mono fun ⟨_, _⟩ w => .lift w)
theorem x_testOf {r : R (D × Hq)} (w : Wp r fun (x, h1) => OkO (truth h1 x) fun c => PB (c, h1)) : Wp (testOf r) PB := by
  refine .bind (w.mono fun ⟨_, _⟩ w => ?_)
  obtain ⟨c, e, k⟩ := w
  try dsimp only
  rw [e]
  exact .ok k
theorem x_not {a : Ex} (w : Wp (ev φ a s h) fun (x, h1) => OkO (truth h1 x) fun c => P (.bl (!c), h1)) : Wp (ev φ (.notV a) s h) P := by
  unfold ev; exact .bind (x_testOf (w.mono fun ⟨_, _⟩ w => let ⟨c, e, k⟩ := w; ⟨c, e, .ok k⟩))
theorem x_cmp {op : CmpOp} {a b : Ex} (w : Wp (ev φ a s h) fun (x, h1) => Wp (ev φ b s h1) fun (y, h2) => OkO (cmpop op x y h2) P) : Wp (ev φ (.cmp op a b) s h) P := by
  unfold ev; exact .bind (w.mono fun ⟨_, _⟩ w => .bind (w.mono fun ⟨_, _⟩ w => .lift w))
theorem x_cmp2 {op op' : CmpOp} {a b c : Ex} (w : Wp (ev φ a s h) fun (x, h1) => Wp (ev φ b s h1) fun (y, h2) => OkO (cmpop op x y h2) fun (z, h3) => ∃ v, z = .bl v ∧ Cd v (Wp (ev φ c s h3) fun (u, h4) => OkO (cmpop op' y u h4) P) (P (.bl false, h3))) : Wp (ev φ (.cmp2 op op' a b c) s h) P := by
  unfold ev
  refine .bind (w.mono fun ⟨_, _⟩ w => .bind (w.mono fun ⟨_, _⟩ w => .bind (.lift ?_)))
  obtain ⟨⟨zd, zh⟩, e, v, hv, t, f⟩ := w
  refine ⟨_, e, ?_⟩
  try dsimp only at hv
  subst hv
  cases v with
  | true => exact .bind ((t rfl).mono fun ⟨_, _⟩ w => .lift w)
  | false => exact .ok (f rfl)
theorem x_and {a b : Ex} (w : Wp (ev φ a s h) fun (x, h1) => OkO (truth h1 x) fun c => Cd c (Wp (ev φ b s h1) P) (P (x, h1))) : Wp (ev φ (.andV a b) s h) P := by
  unfold ev
  refine .bind (w.mono fun ⟨_, _⟩ w => ?_)
  obtain ⟨c, e, t, f⟩ := w
  try dsimp only
  rw [e]
  cases c with
  | true => exact t rfl
  | false => exact .ok (f rfl)
theorem x_or {a b : Ex} (w : Wp (ev φ a s h) fun (x, h1) => OkO (truth h1 x) fun c => Cd c (P (x, h1)) (Wp (ev φ b s h1) P)) : Wp (ev φ (.orV a b) s h) P := by
  unfold ev
  refine .bind (w.mono fun ⟨_, _⟩ w => ?_)
  obtain ⟨c, e, t, f⟩ := w
  try dsimp only
  rw [e]
  cases c with
  | true => exact .ok (t rfl)
  | false => exact f rfl
theorem x_ife {t a b : Ex} (w : Wp (ev φ t s h) fun (x, h1) => OkO (truth h1 x) fun c => Cd c (Wp (ev φ a s h1) P) (Wp (ev φ b s h1) P)) : Wp (ev φ (.ife t a b) s h) P := by
  unfold ev
  refine .bind (x_testOf (w.mono fun ⟨_, _⟩ w => ?_))
  obtain ⟨c, e, t, f⟩ := w
  refine ⟨c, e, ?_⟩
  cases c with
  | true => exact t rfl
  | false => exact f rfl
theorem x_tup {es : Exs} (w : Wp (evs φ es s h) fun (xs, h1) => OkO (mkT xs h1) P) : Wp (ev φ (.tup es) s h) P := by unfold ev; exact .bind (w.mono fun ⟨_, _⟩ w => .lift w)
theorem x_lst {live : Bool} {es : Exs} (w : Wp (evs φ es s h) fun (xs, h1) => OkO (mkL live xs h1) P) : Wp (ev φ (.lst live es) s h) P := by unfold ev; exact .bind (w.mono fun ⟨_, _⟩ w => .lift w)
theorem x_dct {live : Bool} {es : Exs} (w : Wp (evs φ es s h) fun (xs, h1) => OkO (mkD live xs h1) P) : Wp (ev φ (.dct live es) s h) P := by unfold ev; exact .bind (w.mono fun ⟨_, _⟩ w => .lift w)
/-- a comprehension's turn -/
def stepC (φ : Fn) (c : Tg) (own : List Nat) (ifs : Exs) (elt : Ex) (s : Env') (x : D) (h : Hq) : R (Option D × Hq) := match asg c x (wipe' s own) with
  | some s' => hush ((evIf φ ifs s' h).bind fun (b, h) => if b then (ev φ elt s' h).bind fun (y, h) => .ok (some y, h) else .ok (none, h))
  | none => .stuck
theorem x_comp {live : Bool} {tg : Tg} {it : It} {ifs : Exs} {elt : Ex} {own : List Nat} (w : Wp (evIt φ it s h) fun (xs, wa, h1) => Wp (turns wa (stepC φ tg own ifs elt s) xs [] h1) fun (ys, h2) => OkO (mkL live ys h2) P) : Wp (ev φ (.comp live tg it ifs elt own) s h) P := by
  unfold ev; exact .bind (w.mono fun ⟨_, _, _⟩ w => .bind (w.mono fun ⟨_, _⟩ w => .lift w))
theorem x_stepC {c : Tg} {own : List Nat} {ifs : Exs} {elt : Ex} {x : D} {PS : Option D × Hq → Prop} (w : OkO (asg c x (wipe' s own)) fun s' => Wp (evIf φ ifs s' h) fun (b, h1) => Cd b (Wp (ev φ elt s' h1) fun (y, h2) => PS (some y, h2)) (PS (none, h1))) : Wp (stepC φ c own ifs elt s x h) PS := by
  obtain ⟨s', e, w⟩ := w
  unfold stepC
  rw [e]
  refine .hush (.bind (w.mono fun b w => ?_))
  obtain ⟨⟨⟩ | ⟨⟩, h1⟩ := b
  · exact .ok (w.2 rfl)
  · exact .bind ((w.1 rfl).mono fun ⟨_, _⟩ w => .ok w)
theorem x_ix {a i : Ex} (w : Wp (ev φ a s h) fun (x, h1) => Wp (ev φ i s h1) fun (y, h2) => OkO (ixD x y h2) P) : Wp (ev φ (.ix a i) s h) P := by unfold ev; exact .bind (w.mono fun ⟨_, _⟩ w => .bind (w.mono fun ⟨_, _⟩ w => .lift w))
theorem x_slice {a : Ex} {lo hi : Exo} (w : Wp (ev φ a s h) fun (x, h1) => Wp (evO φ lo s h1) fun (l, h2) => Wp (evO φ hi s h2) fun (u, h3) => OkO (sliceD x l u h3) P) : Wp (ev φ (.slice a lo hi) s h) P := by
  unfold ev; exact .bind (w.mono fun ⟨_, _⟩ w => .bind (w.mono fun ⟨_, _⟩ w => .bind (w.mono fun ⟨_, _⟩ w => .lift w)))
theorem x_call {f : Nat} {es : Exs} (w : Wp (evs φ es s h) fun (xs, h1) => Wp (φ f xs h1) P) : Wp (ev φ (.call f es) s h) P := by unfold ev; exact .bind (w.mono fun ⟨_, _⟩ w => w)
theorem x_callK {f : Nat} {l : List Nat} {es : Exs} (w : Wp (evs φ es s h) fun (xs, h1) => Wp (φ f (l.filterMap fun i => xs[i]?) h1) P) : Wp (ev φ (.callK f l es) s h) P := by unfold ev; exact .bind (w.mono fun ⟨_, _⟩ w => w)
theorem x_bi {f : Bi} {live : Bool} {es : Exs} (w : Wp (evs φ es s h) fun (xs, h1) => OkO (biD f live xs h1) P) : Wp (ev φ (.bi f live es) s h) P := by unfold ev; exact .bind (w.mono fun ⟨_, _⟩ w => .lift w)
theorem x_me {m : Me} {o : Ex} {es : Exs} (w : Wp (ev φ o s h) fun (x, h1) => OkO (meKind m x h1) fun k => Wp (evs φ es s h1) fun (xs, h2) => OkO (meD k m x xs h2) P) : Wp (ev φ (.me m o es) s h) P := by
  unfold ev
  refine .bind (w.mono fun ⟨_, _⟩ w => ?_)
  obtain ⟨k, e, w⟩ := w
  try dsimp only
  rw [e]
  exact .bind (w.mono fun ⟨_, _⟩ w => .lift w)
theorem x_lrng {live : Bool} {it : It} (w : Wp (evIt φ it s h) fun (xs, wa, h1) => OkO (mkL live xs h1) P) : Wp (ev φ (.lrng live it) s h) P := by unfold ev; exact .bind (w.mono fun ⟨_, _, _⟩ w => .lift w)
theorem x_anil (p : PA ([], h)) : Wp (evs φ .nil s h) PA := ⟨_, by unfold evs; rfl, p⟩
theorem x_acons {e : Ex} {es : Exs} (w : Wp (ev φ e s h) fun (x, h1) => Wp (evs φ es s h1) fun (xs, h2) => PA (x :: xs, h2)) : Wp (evs φ (.cons e es) s h) PA := by
  unfold evs; exact .bind (w.mono fun ⟨_, _⟩ w => .bind (w.mono fun ⟨_, _⟩ w => .ok w))
theorem x_no (p : PO (none, h)) : Wp (evO φ .no s h) PO := ⟨_, by unfold evO; rfl, p⟩
theorem x_yes {e : Ex} (w : Wp (ev φ e s h) fun (x, h1) => ∃ i, x = .int i ∧ PO (some i, h1)) : Wp (evO φ (.yes e) s h) PO := by
  unfold evO
  refine .bind (w.mono fun p w => ?_)
  obtain ⟨d, h1⟩ := p
  obtain ⟨i, e, k⟩ := w
  try dsimp only at e
  subst e
  exact .ok k
theorem x_if0 (p : PB (true, h)) : Wp (evIf φ .nil s h) PB := ⟨_, by unfold evIf; rfl, p⟩
theorem x_if1 {e : Ex} (w : Wp (ev φ e s h) fun (x, h1) => OkO (truth h1 x) fun c => PB (c, h1)) : Wp (evIf φ (.cons e .nil) s h) PB := by unfold evIf; exact x_testOf w
theorem x_iex {e : Ex} (w : Wp (ev φ e s h) fun (x, h1) => OkO (itD x h1) PI) : Wp (evIt φ (.ex e) s h) PI := by unfold evIt; exact .bind (w.mono fun ⟨_, _⟩ w => .lift w)
theorem x_range1 {e : Ex} (w : Wp (ev φ e s h) fun (x, h1) => OkO (rng1D x h1) PI) : Wp (evIt φ (.range1 e) s h) PI := by unfold evIt; exact .bind (w.mono fun ⟨_, _⟩ w => .lift w)
theorem x_enum {e : Ex} (w : Wp (ev φ e s h) fun (x, h1) => OkO (enD x h1) PI) : Wp (evIt φ (.enum (.ex e)) s h) PI := by unfold evIt; exact .bind (w.mono fun ⟨_, _⟩ w => .lift w)
theorem x_set {tg : Tg} {e : Ex} (w : Wp (ev φ e s h) fun (x, h1) => OkO (asg tg x s) fun s' => PF (.nx s' h1)) : Wp (exS φ (.set tg e) s h) PF := by
  unfold exS
  refine .bind (w.mono fun ⟨_, _⟩ w => ?_)
  obtain ⟨s', e, k⟩ := w
  try dsimp only
  rw [e]
  exact .ok k
theorem x_setIx {o i e : Ex} (w : Wp (ev φ e s h) fun (v, h1) => Wp (ev φ o s h1) fun (x, h2) => Wp (ev φ i s h2) fun (k, h3) => OkO (setD x k v h3) fun h => PF (.nx s h)) : Wp (exS φ (.setIx o i e) s h) PF := by
  unfold exS
  exact .bind (w.mono fun ⟨_, _⟩ w => .bind (.hush (w.mono fun ⟨_, _⟩ w => .bind (.hush (w.mono fun ⟨_, _⟩ w => .bind (.lift (let ⟨a, e, z⟩ := w; ⟨a, e, .ok z⟩)))))))
theorem x_expr {e : Ex} (w : Wp (ev φ e s h) fun (_, h1) => PF (.nx s h1)) : Wp (exS φ (.expr e) s h) PF := by unfold exS; exact .bind (w.mono fun ⟨_, _⟩ w => .ok w)
theorem x_ret {e : Ex} (w : Wp (ev φ e s h) fun (x, h1) => PF (.rt x h1)) : Wp (exS φ (.ret e) s h) PF := by unfold exS; exact .bind (w.mono fun ⟨_, _⟩ w => .ok w)
theorem x_ite {t : Ex} {a b : Sms} (w : Wp (ev φ t s h) fun (x, h1) => OkO (truth h1 x) fun c => Cd c (Wp (exB φ a s h1) PF) (Wp (exB φ b s h1) PF)) : Wp (exS φ (.ite t a b) s h) PF := by
  unfold exS
  refine .bind (x_testOf (w.mono fun ⟨_, _⟩ w => ?_))
  obtain ⟨c, e, t, f⟩ := w
  refine ⟨c, e, ?_⟩
  cases c with
  | true => exact t rfl
  | false => exact f rfl
def stepL (φ : Fn) (c : Tg) (b : Sms) (x : D) (s : Env') (h : Hq) : R Fl := match asg c x s with | some s' => exB φ b s' h | none => .stuck
theorem x_stepL {c : Tg} {b : Sms} {x : D} (w : OkO (asg c x s) fun s' => Wp (exB φ b s' h) PF) : Wp (stepL φ c b x s h) PF := by
  obtain ⟨s', e, w⟩ := w
  unfold stepL
  rw [e]
  exact w
theorem x_for {tg : Tg} {it : It} {b : Sms} (w : Wp (evIt φ it s h) fun (xs, wa, h1) => Wp (loopF wa (stepL φ tg b) xs s h1) PF) : Wp (exS φ (.for tg it b) s h) PF := by unfold exS; exact .bind (w.mono fun ⟨_, _, _⟩ w => w)
theorem x_while {t : Ex} {b : Sms} (w : Wp (loopW (fun s h => testOf (ev φ t s h)) (fun s h => exB φ b s h) fuel s h) PF) : Wp (exS φ (.while t b) s h) PF := by unfold exS; exact w
theorem x_nil (p : PF (.nx s h)) : Wp (exB φ .nil s h) PF := ⟨_, by unfold exB; rfl, p⟩
def Nxt (φ : Fn) (r : Sms) (PF : Fl → Prop) : Fl → Prop
  | .nx s h => Wp (exB φ r s h) PF
  | f => PF f
theorem x_cons {a : Sm} {r : Sms} (w : Wp (exS φ a s h) (Nxt φ r PF)) : Wp (exB φ (.cons a r) s h) PF := by
  unfold exB
  refine .bind (w.mono fun f w => ?_)
  cases f with
  | nx s h => exact w
  | rt _ _ => exact .ok w
  | bk _ _ => exact .ok w
  | ct _ _ => exact .ok w
theorem nxt_nx {r : Sms} (w : Wp (exB φ r s h) PF) : Nxt φ r PF (.nx s h) := w
theorem nxt_rt {r : Sms} {d : D} (w : PF (.rt d h)) : Nxt φ r PF (.rt d h) := w
theorem end_rt {d : D} (p : P (d, h)) : Wp (endOf (.rt d h)) P := ⟨_, rfl, p⟩
end
/-! what is asked of one reckoning -/
section
variable {h : Hq} {P : D × Hq → Prop} {live : Bool}
theorem o_ne {x y : D} {b : Bool} (e : eqD h x y = some b) (p : P (.bl (!b), h)) : OkO (cmpop .NotEq x y h) P := ⟨_, by unfold cmpop; rw [e]; rfl, p⟩
theorem o_mul {i j : Int} (e : mulOk i j = true) (p : P (.int (i * j), h)) : OkO (binop .Mult live (.int i) (.int j) h) P := ⟨_, by simp [binop, mulD, e], p⟩
theorem o_div {i j : Int} (h0 : 0 < j) (h1 : j.natAbs.log2 < 9000) (p : P (.int (i / j), h)) : OkO (binop .FloorDiv live (.int i) (.int j) h) P := ⟨_, by simp [binop, int2, h0, h1], p⟩
theorem o_mod {i j : Int} (h0 : 0 < j) (p : P (.int (i % j), h)) : OkO (binop .Mod live (.int i) (.int j) h) P := ⟨_, by simp [binop, int2, h0], p⟩
theorem o_ixL {ds : List D} {i : Int} {d : D} (e : at? ds i = some d) (p : P (d, h)) : OkO (ixD (.lst ds) (.int i) h) P := ⟨_, by simp [ixD, itemsOf, e, ofO], p⟩
theorem o_ixT {ds : List D} {i : Int} {d : D} (e : at? ds i = some d) (p : P (d, h)) : OkO (ixD (.tup ds) (.int i) h) P := ⟨_, by simp [ixD, itemsOf, e, ofO], p⟩
theorem o_ixR {n : Nat} {ds : List D} {i : Int} {d : D} (hn : h[n]? = some (.lst ds)) (e : at? ds i = some d) (p : P (d, h)) : OkO (ixD (.ref n) (.int i) h) P := ⟨_, by simp [ixD, hn, e, ofO], p⟩
theorem o_app {n : Nat} {ds : List D} {d : D} (hn : h[n]? = some (.lst ds)) (hl : ds.length < 16777216) (p : P (.non, h.set n (.lst (ds ++ [d])))) : OkO (meD .lst .append (.ref n) [d] h) P := ⟨_, by simp [meD, appendD, hn, hl, hset], p⟩
theorem o_pop {n : Nat} {ds : List D} {d : D} (hn : h[n]? = some (.lst ds)) (hd : ds[ds.length - 1]? = some d) (p : P (d, h.set n (.lst ds.dropLast))) : OkO (meD .lst .pop (.ref n) [] h) P := ⟨_, by simp [meD, popD, hn, hd, hset], p⟩
theorem o_kind {n : Nat} {ds : List D} {m : Me} {PK : Kd → Prop} (hn : h[n]? = some (.lst ds)) (hf : meFits m .lst = true) (p : PK .lst) : OkO (meKind m (.ref n) h) PK := ⟨_, by simp [meKind, kdOf, hn, hf], p⟩
theorem o_rng1 {j : Int} {PI : Its' → Prop} (h0 : -(2 ^ 62) ≤ j) (h1 : j < 2 ^ 62) (p : PI (rangeL 0 j, [], h)) : OkO (rng1D (.int j) h) PI := ⟨_, by simp only [rng1D]; rw [if_pos ⟨h0, h1⟩], p⟩
theorem o_lst {ds : List D} (hl : ds.length ≤ 16777216) (p : P (.lst ds, h)) : OkO (mkL false ds h) P := ⟨_, by simp [mkL, lineOk, hl], p⟩
theorem o_new {ds : List D} (hl : ds.length ≤ 16777216) (p : P (.ref h.length, h ++ [.lst ds])) : OkO (mkL true ds h) P := ⟨_, by simp [mkL, lineOk, hl], p⟩
end
theorem rangeL_get {lo hi : Int} {i : Nat} {d : D} (e : (rangeL lo hi)[i]? = some d) : d = .int (lo + i) ∧ lo + i < hi := by
  unfold rangeL at e
  rw [List.getElem?_map] at e
  cases q : (List.range (hi - lo).toNat)[i]? with
  | none => rw [q] at e; cases e
  | some j =>
    rw [q] at e
    obtain ⟨h1, h2⟩ := List.getElem?_eq_some_iff.mp q
    rw [List.getElem_range] at h2
    rw [List.length_range] at h1
    subst h2
    cases e
    exact ⟨rfl, by omega⟩
theorem rangeL_len {lo hi : Int} : (rangeL lo hi).length = (hi - lo).toNat := by unfold rangeL; rw [List.length_map, List.length_range]
def Sms.drop : Sms → Nat → Sms
  | s, 0 => s
  | .nil, _ + 1 => .nil
  | .cons _ r, n + 1 => r.drop n
def Sms.nth : Sms → Nat → Sm
  | .cons a _, 0 => a
  | .cons _ r, n + 1 => r.nth n
  | .nil, _ => .pass
/-- the block of a loop -/
def Sm.blk : Sm → Sms
  | .for _ _ b => b
  | .while _ b => b
  | _ => .nil
theorem at_mod {α : Type} {xs : List α} {i : Int} (h0 : 0 ≤ i) (h1 : i < xs.length) : at? xs i = some (xs[i.toNat]'(by omega)) := by
  obtain ⟨j, rfl⟩ := Int.eq_ofNat_of_zero_le h0
  have hj : j < xs.length := by omega
  unfold at?
  exact atI_nat (j := j) (List.getElem?_eq_getElem hj)
/-! ### what raises -/
def Xr {α : Type} (r : R α) (e : D) (h : Hq) : Prop := r = .exc e h
section
variable {φ : Fn} {s : Env'} {h h2 : Hq} {e : D} {PF : Fl → Prop}
theorem Xr.bind {α β : Type} {r : R α} {f : α → R β} (x : Xr r e h2) : Xr (r.bind f) e h2 := by
  rw [show r = .exc e h2 from x]
  rfl
end
end FF

/-! FFReel: the drawing of a law's things from its script. -/
namespace FF
open PySem PySem.Spec L2
def R_reel : Def := ⟨.live, 1, ["script", "cells", "stamp", "own", "deep"], (.cons (.set (.tup (.cons (.name 1) (.cons (.name 2) .nil))) (.tup (.cons (.comp false (.name 3) (.ex (.slice (.var 0) .no (.yes (.const (.int 63))))) .nil (.ife (.cmp .GtE (.var 3) (.const (.int 0))) (.bin .Mult false (.const (.int 2)) (.var 3)) (.bin .Sub false (.bin .Mult false (.neg (.const (.int 2))) (.var 3)) (.const (.int 1)))) [3]) (.cons (.bin .Add false (.bi .len false (.cons (.var 0) .nil)) (.const (.int 7))) .nil)))) (.cons (.for (.name 3) (.ex (.var 1)) (.cons (.set (.name 2) (.bin .Mod false (.bi .int false (.cons (.bin .Add false (.bin .Add false (.bin .Mult false (.var 2) (.const (.int 69069))) (.bin .Mult false (.var 3) (.const (.int 11)))) (.const (.int 5))) .nil)) (.const (.int 4294967291)))) .nil)) (.cons (.set (.name 4) (.comp true (.name 3) (.ex (.var 1)) (.cons (.cmp .GtE (.var 3) (.bin .Pow false (.const (.int 10)) (.const (.int 18)))) .nil) (.var 3) [3])) (.cons (.ret (.dct true (.cons (.const (.str "deep")) (.cons (.var 4) (.cons (.const (.str "cells")) (.cons (.bin .Add false (.var 1) (.lst false (.cons (.bin .Add false (.bin .Mult false (.const (.int 2)) (.bi .len false (.cons (.var 1) .nil))) (.const (.int 1))) .nil))) (.cons (.const (.str "stamp")) (.cons (.var 2) (.cons (.const (.str "count")) (.cons (.const (.int 0)) .nil)))))))))) .nil))))⟩
def R_draw : Def := ⟨.trim, 2, ["reel", "many", "deep", "own", "count", "cells", "mixed", "turn"], (.cons (.set (.name 2) (.ix (.var 0) (.const (.str "deep")))) (.cons (.ite (.andV (.cmp .NotEq (.var 2) (.lst false .nil)) (.cmp .Gt (.var 1) (.const (.int 1)))) (.cons (.set (.name 3) (.me .pop (.var 2) .nil)) (.cons (.ite (.cmp .GtE (.var 3) (.var 1)) (.cons (.expr (.me .append (.var 2) (.cons (.bin .FloorDiv false (.var 3) (.var 1)) .nil))) .nil) .nil) (.cons (.ret (.bin .Mod false (.bi .int false (.cons (.var 3) .nil)) (.var 1))) .nil))) .nil) (.cons (.setIx (.var 0) (.const (.str "count")) (.bin .Add false (.ix (.var 0) (.const (.str "count"))) (.const (.int 1)))) (.cons (.set (.tup (.cons (.name 4) (.cons (.name 5) .nil))) (.tup (.cons (.ix (.var 0) (.const (.str "count"))) (.cons (.ix (.var 0) (.const (.str "cells"))) .nil)))) (.cons (.set (.name 6) (.bin .Mod false (.bi .int false (.cons (.bin .Add false (.bin .Add false (.bin .Mult false (.ix (.var 5) (.bin .Mod false (.bi .int false (.cons (.bin .Mult false (.var 4) (.const (.int 7))) .nil)) (.bi .len false (.cons (.var 5) .nil)))) (.const (.int 2246822519))) (.ix (.var 0) (.const (.str "stamp")))) (.bin .Mult false (.var 4) (.const (.int 3266489917)))) .nil)) (.const (.int 4294967291)))) (.cons (.for (.name 7) (.range1 (.const (.int 2))) (.cons (.set (.name 6) (.bin .Mod false (.bi .int false (.cons (.bin .Add false (.bin .Mult false (.var 6) (.var 6)) (.bin .Mult false (.ix (.var 0) (.const (.str "stamp"))) (.bin .Add false (.var 4) (.var 7)))) .nil)) (.const (.int 4294967279)))) .nil)) (.cons (.ret (.bin .Mod false (.bi .int false (.cons (.bin .FloorDiv false (.var 6) (.const (.int 512))) .nil)) (.var 1))) .nil)))))))⟩
def R_pick : Def := ⟨.trim, 2, ["reel", "things"], (.cons (.ret (.ix (.var 1) (.call 2 (.cons (.var 0) (.cons (.bi .len false (.cons (.var 1) .nil)) .nil))))) .nil)⟩
def R_size : Def := ⟨.trim, 2, ["reel", "step", "near", "lot", "far", "off"], (.cons (.set (.tup (.cons (.name 2) (.cons (.name 3) .nil))) (.tup (.cons (.bin .Mult false (.var 1) (.bin .Add false (.const (.int 1)) (.call 2 (.cons (.var 0) (.cons (.const (.int 6)) .nil))))) (.cons (.call 2 (.cons (.var 0) (.cons (.const (.int 9)) .nil))) .nil)))) (.cons (.ite (.cmp .Lt (.var 3) (.const (.int 3))) (.cons (.ret (.var 2)) .nil) .nil) (.cons (.ite (.cmp .Lt (.var 3) (.const (.int 6))) (.cons (.ret (.bi .max2 false (.cons (.const (.int 1)) (.cons (.bin .Add false (.var 2) (.call 3 (.cons (.var 0) (.cons (.lst false (.cons (.neg (.const (.int 1))) (.cons (.const (.int 1)) (.cons (.neg (.const (.int 2))) (.cons (.const (.int 3)) .nil))))) .nil)))) .nil)))) .nil) .nil) (.cons (.ite (.cmp .Lt (.var 3) (.const (.int 8))) (.cons (.ret (.bin .Add false (.const (.int 1)) (.call 2 (.cons (.var 0) (.cons (.const (.int 40)) .nil))))) .nil) .nil) (.cons (.set (.name 4) (.bin .Sub false (.bin .Pow false (.const (.int 10)) (.const (.int 30))) (.bin .Mult false (.var 1) (.call 2 (.cons (.var 0) (.cons (.const (.int 9)) .nil)))))) (.cons (.set (.name 5) (.call 3 (.cons (.var 0) (.cons (.lst false (.cons (.const (.int 0)) (.cons (.const (.int 0)) (.cons (.neg (.const (.int 1))) (.cons (.const (.int 1)) (.cons (.bin .FloorDiv false (.neg (.var 1)) (.const (.int 2))) (.cons (.bin .Sub false (.const (.int 0)) (.bin .Mult false (.call 2 (.cons (.var 0) (.cons (.bin .Pow false (.const (.int 10)) (.const (.int 6))) .nil))) (.bin .Pow false (.const (.int 10)) (.const (.int 23))))) .nil))))))) .nil)))) (.cons (.ret (.bi .min2 false (.cons (.bin .Pow false (.const (.int 10)) (.const (.int 30))) (.cons (.bi .max2 false (.cons (.const (.int 1)) (.cons (.bin .Add false (.var 4) (.var 5)) .nil))) .nil)))) .nil)))))))⟩
def R_book : Def := ⟨.trim, 2, ["reel", "many", "found", "place", "step"], (.cons (.set (.name 2) (.lst true .nil)) (.cons (.for (.name 3) (.range1 (.var 1)) (.cons (.set (.name 4) (.call 3 (.cons (.var 0) (.cons (.lst false (.cons (.const (.int 1)) (.cons (.const (.int 1)) (.cons (.const (.int 2)) (.cons (.const (.int 2)) (.cons (.const (.int 4)) (.cons (.const (.int 4)) (.cons (.const (.int 8)) (.cons (.const (.int 16)) (.cons (.const (.int 32)) (.cons (.const (.int 64)) .nil))))))))))) .nil)))) (.cons (.expr (.me .append (.var 2) (.cons (.tup (.cons (.call 4 (.cons (.var 0) (.cons (.var 4) .nil))) (.cons (.var 4) .nil))) .nil))) (.cons (.ite (.andV (.cmp .Gt (.var 3) (.const (.int 0))) (.cmp .Eq (.call 2 (.cons (.var 0) (.cons (.const (.int 9)) .nil))) (.const (.int 0)))) (.cons (.setIx (.var 2) (.var 3) (.ix (.var 2) (.bin .Sub false (.var 3) (.const (.int 1))))) .nil) .nil) .nil)))) (.cons (.ret (.bi .tuple false (.cons (.var 2) .nil))) .nil)))⟩
/-- the reel of a script -/
structure Reel where
  deep : List Int
  cells : List Int
  stamp : Int
  count : Int
structure Reel.Ok (r : Reel) : Prop where
  some' : 0 < r.cells.length
  few : r.cells.length ≤ 64
  fewD : r.deep.length ≤ 64
  s0 : 0 ≤ r.stamp
  s1 : r.stamp < 4294967296
def Reel.h (r : Reel) (rest : Hq) : Hq := .lst (r.deep.map .int) :: .dct [(.inr "deep", .ref 0), (.inr "cells", .lst (r.cells.map .int)), (.inr "stamp", .int r.stamp), (.inr "count", .int r.count)] :: rest
theorem unders_ints (n : Nat) : ∀ ns : List Int, D.unders n (ns.map .int) = true
  | [] => rfl
  | _ :: ns => by simp [D.unders, D.under, unders_ints n ns]
theorem pys_ints : ∀ ns : List Int, D.pys (ns.map .int) = some (ns.map .int)
  | [] => rfl
  | n :: ns => by simp [D.pys, D.py, pys_ints ns]
theorem melts_ints {g : List D → Option (List D)} {h : Hq} : ∀ ns : List Int, D.melts g h (ns.map .int) = some (ns.map .int)
  | [] => rfl
  | n :: ns => by simp [D.melts, D.melt, melts_ints ns]
theorem shaped_ints : ∀ ns : List Int, SeqAt.shaped (.list (ns.map .int)) = true := by
  intro ns
  have h1 : PyData.canLayAll0 (ns.map .int) = true := by
    induction ns with
    | nil => rfl
    | cons n ns ih => rw [List.map_cons, PyData.canLayAll0, PyData.canLay0, ih]; rfl
  have h2 : PyData.depthAll (ns.map .int) = 0 := by
    induction ns with
    | nil => rfl
    | cons n ns ih => rw [List.map_cons, PyData.depthAll, PyData.depth, ih (by rw [List.map_cons, PyData.canLayAll0, Bool.and_eq_true] at h1; exact h1.2)]; rfl
  unfold SeqAt.shaped PyData.canLay0 PyData.depth
  rw [h1, h2]; rfl
/-- a list of ints against [] -/
theorem eq_nil {h : Hq} {n : Nat} {ns : List Int} (e : h[n]? = some (.lst (ns.map .int))) : eqD h (.ref n) (.lst []) = some ns.isEmpty := by
  have m1 : pyOf h (.ref n) = some (.list (ns.map .int)) := by
    unfold pyOf melt1 meltN D.melts D.melt
    rw [e]
    simp [meltN, melts_ints, D.melts, D.py, pys_ints]
  have m2 : pyOf h (.lst []) = some (.list []) := by
    simp [pyOf, melt1, meltN, D.melts, D.melt, D.py, D.pys]
  unfold eqD scalEq
  rw [m1, m2]
  show eqPy _ _ = _
  unfold eqPy
  rw [shaped_ints ns, show SeqAt.shaped (.list []) = true from shaped_ints []]
  cases ns with
  | nil => rfl
  | cons a t => rfl
theorem mulOk_r {i j : Int} (h0 : -(2 ^ 64) < j) (h : j < 2 ^ 64) : mulOk i j = true := by
  unfold mulOk
  rw [show decide (-(2 ^ 64 : Int) < j ∧ j < 2 ^ 64) = true from decide_eq_true ⟨h0, h⟩]
  simp
theorem mulOk_l {i j : Int} (h0 : -(2 ^ 64) < i) (h : i < 2 ^ 64) : mulOk i j = true := by
  unfold mulOk
  rw [show decide (-(2 ^ 64 : Int) < i ∧ i < 2 ^ 64) = true from decide_eq_true ⟨h0, h⟩]
  simp
/-- a draw -/
def DrawOk (f : List D → Hq → R (D × Hq)) : Prop := ∀ (r : Reel) (many : Int) (rest : Hq), r.Ok → 0 < many → many.natAbs.log2 < 9000 → rest.all (Ob.under (rest.length + 2)) = true →
  Wp (f [.ref 1, .int many] (r.h rest)) fun p => ∃ z r', p = (.int z, Reel.h r' rest) ∧ r'.Ok ∧ 0 ≤ z ∧ z < many
theorem reel_under {r : Reel} {rest : Hq} (u : rest.all (Ob.under (rest.length + 2)) = true) : (r.h rest).all (Ob.under (rest.length + 2)) = true := by
  unfold Reel.h
  rw [List.all_cons, List.all_cons, u]
  simp [Ob.under, D.under, unders_ints]
/-- the end of a def whose own cells go -/
theorem trim_end {h h' : Hq} {x y : D} {P : D × Hq → Prop} (hl : h'.take h.length = h' ∨ True) (e : thaw1 h.length h' x = some y) (u : (h'.take h.length).all (Ob.under h.length) = true) (p : P (y, h'.take h.length)) :
    Wp (match thaw1 h.length h' x with | some y => if (h'.take h.length).all (Ob.under h.length) then .ok (y, h'.take h.length) else .stuck | none => (.stuck : R (D × Hq))) P := by
  rw [e]
  dsimp only
  rw [if_pos u]
  exact .ok p
theorem thaw_int {n : Nat} {h : Hq} {z : Int} : thaw1 n h (.int z) = some (.int z) := by
  simp [thaw1, thawN, D.thaws, D.thaw, D.unders, D.under]
theorem draw_ok {φ : Fn} : DrawOk (runDef φ R_draw) := by
  intro r many rest ok hm hb u
  have key : Wp ((exB φ R_draw.body [some (.ref 1), some (.int many), none, none, none, none, none, none] (r.h rest)).bind endOf) fun p => ∃ z r', p = (.int z, Reel.h r' rest) ∧ r'.Ok ∧ 0 ≤ z ∧ z < many := by
    have hd : (r.h rest)[0]? = some (.lst (r.deep.map .int)) := rfl
    have em : ∀ z : Int, 0 ≤ z % many ∧ z % many < many := fun z => ⟨Int.emod_nonneg _ (by omega), Int.emod_lt_of_pos _ hm⟩
    have h0 : (r.h rest)[0]? = some (.lst (r.deep.map .int)) := rfl
    have h1 : ∀ r : Reel, (Reel.h r rest)[1]? = some (.dct [(.inr "deep", .ref 0), (.inr "cells", .lst (r.cells.map .int)), (.inr "stamp", .int r.stamp), (.inr "count", .int r.count)]) := fun _ => rfl
    have k1 : ∀ r : Reel, kget [(.inr "deep", .ref 0), (.inr "cells", .lst (r.cells.map .int)), (.inr "stamp", .int r.stamp), (.inr "count", .int r.count)] (.inr "deep" : Key) = some (.ref 0) := fun _ => rfl
    have k2 : ∀ r : Reel, kget [(.inr "deep", .ref 0), (.inr "cells", .lst (r.cells.map .int)), (.inr "stamp", .int r.stamp), (.inr "count", .int r.count)] (.inr "cells" : Key) = some (.lst (r.cells.map .int)) := fun _ => rfl
    have k3 : ∀ r : Reel, kget [(.inr "deep", .ref 0), (.inr "cells", .lst (r.cells.map .int)), (.inr "stamp", .int r.stamp), (.inr "count", .int r.count)] (.inr "stamp" : Key) = some (.int r.stamp) := fun _ => rfl
    have k4 : ∀ r : Reel, kget [(.inr "deep", .ref 0), (.inr "cells", .lst (r.cells.map .int)), (.inr "stamp", .int r.stamp), (.inr "count", .int r.count)] (.inr "count" : Key) = some (.int r.count) := fun _ => rfl
    have e0 : eqD (r.h rest) (.ref 0) (.lst []) = some r.deep.isEmpty := eq_nil h0
    let PE : Fl → Prop := fun f => Wp (endOf f) fun p => ∃ z r', p = (.int z, Reel.h r' rest) ∧ r'.Ok ∧ 0 ≤ z ∧ z < many
    have s2 : r.stamp < 2 ^ 64 := Int.lt_trans ok.s1 (by decide)
    have tl2 : Wp (exB φ (R_draw.body.drop 3) [some (.ref 1), some (.int many), some (.ref 0), none, none, none, none, none] (Reel.h ⟨r.deep, r.cells, r.stamp, r.count + 1⟩ rest)) PE := by
      refine FF.x_cons ?_
      refine FF.x_set ?_
      refine FF.x_tup ?_
      refine FF.x_acons ?_
      refine FF.x_ix ?_
      refine FF.x_var (by rfl) ?_
      refine FF.x_const ?_
      refine FF.OkO.of rfl ?_
      refine FF.x_acons ?_
      refine FF.x_ix ?_
      refine FF.x_var (by rfl) ?_
      refine FF.x_const ?_
      refine FF.OkO.of rfl ?_
      refine FF.x_anil ?_
      refine FF.OkO.of rfl ?_
      refine FF.OkO.of rfl ?_
      refine FF.nxt_nx ?_
      try dsimp only [List.set_cons_zero, List.set_cons_succ]
      refine FF.x_cons ?_
      refine FF.x_set ?_
      refine FF.x_bin ?_
      refine FF.x_bi ?_
      refine FF.x_acons ?_
      refine FF.x_bin ?_
      refine FF.x_bin ?_
      refine FF.x_bin ?_
      refine FF.x_ix ?_
      refine FF.x_var (by rfl) ?_
      refine FF.x_bin ?_
      refine FF.x_bi ?_
      refine FF.x_acons ?_
      refine FF.x_bin ?_
      refine FF.x_var (by rfl) ?_
      refine FF.x_const ?_
      try dsimp only [List.set_cons_zero, List.set_cons_succ]
      refine o_mul (mulOk_r (by decide) (by decide)) ?_
      refine FF.x_anil ?_
      refine FF.OkO.of rfl ?_
      refine FF.x_bi ?_
      refine FF.x_acons ?_
      refine FF.x_var (by rfl) ?_
      refine FF.x_anil ?_
      refine FF.OkO.of rfl ?_
      try dsimp only [List.set_cons_zero, List.set_cons_succ]
      have hc : (0 : Int) < (r.cells.map D.int).length := by rw [List.length_map]; have := ok.some'; omega
      refine o_mod hc ?_
      try dsimp only [List.set_cons_zero, List.set_cons_succ]
      have hi := Int.emod_lt_of_pos ((r.count + 1) * 7) hc
      have hi0 := Int.emod_nonneg ((r.count + 1) * 7) (Int.ne_of_gt hc)
      refine o_ixL (at_mod hi0 hi) ?_
      rw [List.getElem_map]
      refine FF.x_const ?_
      try dsimp only [List.set_cons_zero, List.set_cons_succ]
      refine o_mul (mulOk_r (by decide) (by decide)) ?_
      refine FF.x_ix ?_
      refine FF.x_var (by rfl) ?_
      refine FF.x_const ?_
      refine FF.OkO.of rfl ?_
      refine FF.OkO.of rfl ?_
      refine FF.x_bin ?_
      refine FF.x_var (by rfl) ?_
      refine FF.x_const ?_
      try dsimp only [List.set_cons_zero, List.set_cons_succ]
      refine o_mul (mulOk_r (by decide) (by decide)) ?_
      refine FF.OkO.of rfl ?_
      refine FF.x_anil ?_
      refine FF.OkO.of rfl ?_
      refine FF.x_const ?_
      refine FF.OkO.of rfl ?_
      refine FF.OkO.of rfl ?_
      refine FF.nxt_nx ?_
      try dsimp only [List.set_cons_zero, List.set_cons_succ]
      refine FF.x_cons ?_
      refine FF.x_for ?_
      refine FF.x_range1 ?_
      refine FF.x_const ?_
      refine FF.o_rng1 (by decide) (by decide) ?_
      try dsimp only [List.set_cons_zero, List.set_cons_succ]
      refine wp_loopF (fun _ s h => ∃ m d7, s = [some (.ref 1), some (.int many), some (.ref 0), none, some (.int (r.count + 1)), some (.lst (r.cells.map .int)), some (.int m), d7] ∧ h = Reel.h ⟨r.deep, r.cells, r.stamp, r.count + 1⟩ rest ∧ 0 ≤ m ∧ m < 4294967296) _ 0 _ _ ⟨_, _, rfl, rfl, Int.emod_nonneg _ (by decide), Int.lt_trans (Int.emod_lt_of_pos _ (by decide)) (by decide)⟩ ?_ ?_
      · rintro i d s h e ⟨m, d7, rfl, rfl, m0, m1⟩
        obtain ⟨rfl, _⟩ := rangeL_get e
        refine ⟨rfl, ?_⟩
        refine FF.x_stepL ?_
        refine FF.OkO.of rfl ?_
        refine FF.x_cons ?_
        refine FF.x_set ?_
        refine FF.x_bin ?_
        refine FF.x_bi ?_
        refine FF.x_acons ?_
        refine FF.x_bin ?_
        refine FF.x_bin ?_
        refine FF.x_var (by rfl) ?_
        refine FF.x_var (by rfl) ?_
        try dsimp only [List.set_cons_zero, List.set_cons_succ]
        refine o_mul (mulOk_r (by omega) (by omega)) ?_
        refine FF.x_bin ?_
        refine FF.x_ix ?_
        refine FF.x_var (by rfl) ?_
        refine FF.x_const ?_
        refine FF.OkO.of rfl ?_
        refine FF.x_bin ?_
        refine FF.x_var (by rfl) ?_
        refine FF.x_var (by rfl) ?_
        refine FF.OkO.of rfl ?_
        try dsimp only [List.set_cons_zero, List.set_cons_succ]
        refine o_mul (mulOk_l (Int.lt_of_lt_of_le (by decide) ok.s0) s2) ?_
        refine FF.OkO.of rfl ?_
        refine FF.x_anil ?_
        refine FF.OkO.of rfl ?_
        refine FF.x_const ?_
        refine FF.OkO.of rfl ?_
        refine FF.OkO.of rfl ?_
        refine FF.nxt_nx ?_
        try dsimp only [List.set_cons_zero, List.set_cons_succ]
        refine FF.x_nil ?_
        try dsimp only [List.set_cons_zero, List.set_cons_succ]
        exact ⟨_, _, rfl, rfl, Int.emod_nonneg _ (by decide), Int.lt_trans (Int.emod_lt_of_pos _ (by decide)) (by decide)⟩
      · rintro s h ⟨m, d7, rfl, rfl, m0, m1⟩
        refine ⟨rfl, ?_⟩
        refine FF.nxt_nx ?_
        try dsimp only [List.set_cons_zero, List.set_cons_succ]
        refine FF.x_cons ?_
        refine FF.x_ret ?_
        refine FF.x_bin ?_
        refine FF.x_bi ?_
        refine FF.x_acons ?_
        refine FF.x_bin ?_
        refine FF.x_var (by rfl) ?_
        refine FF.x_const ?_
        refine FF.OkO.of rfl ?_
        refine FF.x_anil ?_
        refine FF.OkO.of rfl ?_
        refine FF.x_var (by rfl) ?_
        try dsimp only [List.set_cons_zero, List.set_cons_succ]
        refine o_mod hm ?_
        refine FF.nxt_rt ?_
        try dsimp only [List.set_cons_zero, List.set_cons_succ]
        refine FF.end_rt ?_
        try dsimp only [List.set_cons_zero, List.set_cons_succ]
        exact ⟨_, _, rfl, ⟨ok.some', ok.few, ok.fewD, ok.s0, ok.s1⟩, em _⟩
    have tl : Wp (exB φ (R_draw.body.drop 2) [some (.ref 1), some (.int many), some (.ref 0), none, none, none, none, none] (r.h rest)) PE := by
      exact tl2
    refine .bind ?_
    refine FF.x_cons ?_
    refine FF.x_set ?_
    refine FF.x_ix ?_
    refine FF.x_var (by rfl) ?_
    refine FF.x_const ?_
    refine FF.OkO.of rfl ?_
    refine FF.OkO.of rfl ?_
    refine FF.nxt_nx ?_
    try dsimp only [List.set_cons_zero, List.set_cons_succ]
    refine FF.x_cons ?_
    refine FF.x_ite ?_
    refine FF.x_and ?_
    refine FF.x_cmp ?_
    refine FF.x_var (by rfl) ?_
    refine FF.x_lst ?_
    refine FF.x_anil ?_
    refine FF.OkO.of rfl ?_
    try dsimp only [List.set_cons_zero, List.set_cons_succ]
    refine o_ne e0 ?_
    refine FF.OkO.of rfl ?_
    try dsimp only [List.set_cons_zero, List.set_cons_succ]
    refine ⟨fun c1 => ?_, fun c1 => ?_⟩
    rotate_left
    · refine FF.OkO.of rfl ?_
      try dsimp only [List.set_cons_zero, List.set_cons_succ]
      rw [c1]
      refine FF.Cd.ff ?_
      refine FF.x_nil ?_
      exact tl
    refine FF.x_cmp ?_
    refine FF.x_var (by rfl) ?_
    refine FF.x_const ?_
    refine FF.OkO.of rfl ?_
    refine FF.OkO.of rfl ?_
    try dsimp only [List.set_cons_zero, List.set_cons_succ]
    refine ⟨fun c2 => ?_, fun c2 => ?_⟩
    rotate_left
    · refine FF.x_nil ?_
      exact tl
    have hne : r.deep ≠ [] := fun z => by rw [z] at c1; cases c1
    obtain ⟨ds, a, ed⟩ : ∃ ds a, r.deep = ds ++ [a] := ⟨_, _, (List.dropLast_concat_getLast hne).symm⟩
    refine FF.x_cons ?_
    refine FF.x_set ?_
    refine FF.x_me ?_
    refine FF.x_var (by rfl) ?_
    refine FF.OkO.of rfl ?_
    refine FF.x_anil ?_
    try dsimp only [List.set_cons_zero, List.set_cons_succ]
    have hp : (r.deep.map D.int)[(r.deep.map D.int).length - 1]? = some (.int a) := by rw [ed]; simp
    refine o_pop h0 hp ?_
    have hdl : (r.deep.map D.int).dropLast = ds.map D.int := by rw [ed]; simp
    have hlen : ds.length + 1 ≤ 64 := by have := ok.fewD; rw [ed, List.length_append] at this; exact this
    rw [hdl]
    refine FF.OkO.of rfl ?_
    refine FF.nxt_nx ?_
    try dsimp only [List.set_cons_zero, List.set_cons_succ]
    refine FF.x_cons ?_
    refine FF.x_ite ?_
    refine FF.x_cmp ?_
    refine FF.x_var (by rfl) ?_
    refine FF.x_var (by rfl) ?_
    refine FF.OkO.of rfl ?_
    refine FF.OkO.of rfl ?_
    try dsimp only [List.set_cons_zero, List.set_cons_succ]
    refine ⟨fun c3 => ?_, fun c3 => ?_⟩
    · refine FF.x_cons ?_
      refine FF.x_expr ?_
      refine FF.x_me ?_
      refine FF.x_var (by rfl) ?_
      refine FF.OkO.of rfl ?_
      refine FF.x_acons ?_
      refine FF.x_bin ?_
      refine FF.x_var (by rfl) ?_
      refine FF.x_var (by rfl) ?_
      try dsimp only [List.set_cons_zero, List.set_cons_succ]
      refine o_div hm hb ?_
      refine FF.x_anil ?_
      try dsimp only [List.set_cons_zero, List.set_cons_succ]
      refine o_app (ds := ds.map D.int) rfl (by rw [List.length_map]; omega) ?_
      refine FF.nxt_nx ?_
      try dsimp only [List.set_cons_zero, List.set_cons_succ]
      refine FF.x_nil ?_
      refine FF.nxt_nx ?_
      try dsimp only [List.set_cons_zero, List.set_cons_succ]
      refine FF.x_cons ?_
      refine FF.x_ret ?_
      refine FF.x_bin ?_
      refine FF.x_bi ?_
      refine FF.x_acons ?_
      refine FF.x_var (by rfl) ?_
      refine FF.x_anil ?_
      refine FF.OkO.of rfl ?_
      refine FF.x_var (by rfl) ?_
      try dsimp only [List.set_cons_zero, List.set_cons_succ]
      refine o_mod hm ?_
      refine FF.nxt_rt ?_
      try dsimp only [List.set_cons_zero, List.set_cons_succ]
      refine FF.nxt_rt ?_
      try dsimp only [List.set_cons_zero, List.set_cons_succ]
      refine FF.end_rt ?_
      try dsimp only [List.set_cons_zero, List.set_cons_succ]
      refine ⟨_, ⟨ds ++ [a / many], r.cells, r.stamp, r.count⟩, ?_, ⟨ok.some', ok.few, by rw [List.length_append]; exact hlen, ok.s0, ok.s1⟩, em a⟩
      unfold Reel.h
      rw [List.map_append]
      rfl
    · refine FF.x_nil ?_
      refine FF.nxt_nx ?_
      try dsimp only [List.set_cons_zero, List.set_cons_succ]
      refine FF.x_cons ?_
      refine FF.x_ret ?_
      refine FF.x_bin ?_
      refine FF.x_bi ?_
      refine FF.x_acons ?_
      refine FF.x_var (by rfl) ?_
      refine FF.x_anil ?_
      refine FF.OkO.of rfl ?_
      refine FF.x_var (by rfl) ?_
      try dsimp only [List.set_cons_zero, List.set_cons_succ]
      refine o_mod hm ?_
      refine FF.nxt_rt ?_
      try dsimp only [List.set_cons_zero, List.set_cons_succ]
      refine FF.nxt_rt ?_
      try dsimp only [List.set_cons_zero, List.set_cons_succ]
      refine FF.end_rt ?_
      try dsimp only [List.set_cons_zero, List.set_cons_succ]
      exact ⟨_, ⟨ds, r.cells, r.stamp, r.count⟩, rfl, ⟨ok.some', ok.few, Nat.le_of_succ_le hlen, ok.s0, ok.s1⟩, em _⟩
  unfold runDef
  rw [if_neg (by simp [R_draw])]
  refine .bind (key.mono ?_)
  rintro _ ⟨z, r', rfl, ok', z0, z1⟩
  have hl : (r.h rest).length = rest.length + 2 := rfl
  have ht : (Reel.h r' rest).take (r.h rest).length = Reel.h r' rest := by rw [hl]; exact List.take_of_length_le (by show rest.length + 2 ≤ _; omega)
  refine trim_end (.inr trivial) thaw_int ?_ ?_
  · rw [ht, hl]; exact reel_under u
  · rw [ht]; exact ⟨z, r', rfl, ok', z0, z1⟩
/-! ### what draws: a value, the reel goes on -/
/-- f draws: at args it tells what ok says -/
def Draws (f : List D → Hq → R (D × Hq)) (args : List D) (good : D → Prop) : Prop := ∀ (r : Reel) (rest : Hq), r.Ok → rest.all (Ob.under (rest.length + 2)) = true →
  Wp (f args (r.h rest)) fun p => ∃ r', p.2 = Reel.h r' rest ∧ r'.Ok ∧ good p.1
theorem draw_int {f : List D → Hq → R (D × Hq)} (d : DrawOk f) {many : Int} (h0 : 0 < many) (h1 : many.natAbs.log2 < 9000) : Draws f [.ref 1, .int many] fun x => ∃ z, x = .int z ∧ 0 ≤ z ∧ z < many := by
  intro r rest ok u
  refine (d r many rest ok h0 h1 u).mono ?_
  rintro _ ⟨z, r', rfl, ok', z0, z1⟩
  exact ⟨r', rfl, ok', z, rfl, z0, z1⟩
mutual
theorem thaw_pure {n : Nat} {g : List D → Option (List D)} {h : Hq} : ∀ d : D, d.pure = true → D.thaw n g h d = some d
  | .non, _ => by unfold D.thaw; rfl
  | .bl _, _ => by unfold D.thaw; rfl
  | .int _, _ => by unfold D.thaw; rfl
  | .str _, _ => by unfold D.thaw; rfl
  | .tup ds, q => by unfold D.pure at q; unfold D.thaw; rw [thaws_pure ds q]; rfl
  | .lst ds, q => by unfold D.pure at q; unfold D.thaw; rw [thaws_pure ds q]; rfl
  | .scr _, _ => by unfold D.thaw; rfl
  | .ktp _, _ => by unfold D.thaw; rfl
  | .kpp _, _ => by unfold D.thaw; rfl
  | .ref _, q => by unfold D.pure at q; cases q
  | .dct ds, q => by unfold D.pure at q; unfold D.thaw; rw [thaws_pure ds q]; rfl
  | .exn _ ds, q => by unfold D.pure at q; unfold D.thaw; rw [thaws_pure ds q]; rfl
  | .opq _, _ => by unfold D.thaw; rfl
theorem thaws_pure {n : Nat} {g : List D → Option (List D)} {h : Hq} : ∀ ds : List D, D.pures ds = true → D.thaws n g h ds = some ds
  | [], _ => by unfold D.thaws; rfl
  | d :: ds, q => by
    unfold D.pures at q
    rw [Bool.and_eq_true] at q
    unfold D.thaws
    rw [thaw_pure d q.1, thaws_pure ds q.2]
end
theorem thaw1_pure {n : Nat} {h : Hq} {d : D} (q : d.pure = true) : thaw1 n h d = some d := by
  unfold thaw1 thawN
  rw [thaws_pure [d] (by unfold D.pures; rw [q]; rfl)]
mutual
theorem under_pure {n : Nat} : ∀ d : D, d.pure = true → d.under n = true
  | .non, _ => by unfold D.under; rfl
  | .bl _, _ => by unfold D.under; rfl
  | .int _, _ => by unfold D.under; rfl
  | .str _, _ => by unfold D.under; rfl
  | .tup ds, q => by unfold D.pure at q; unfold D.under; exact unders_pure ds q
  | .lst ds, q => by unfold D.pure at q; unfold D.under; exact unders_pure ds q
  | .scr _, _ => by unfold D.under; rfl
  | .ktp _, _ => by unfold D.under; rfl
  | .kpp _, _ => by unfold D.under; rfl
  | .ref _, q => by unfold D.pure at q; cases q
  | .dct ds, q => by unfold D.pure at q; unfold D.under; exact unders_pure ds q
  | .exn _ ds, q => by unfold D.pure at q; unfold D.under; exact unders_pure ds q
  | .opq _, _ => by unfold D.under; rfl
theorem unders_pure {n : Nat} : ∀ ds : List D, D.pures ds = true → D.unders n ds = true
  | [], _ => by unfold D.unders; rfl
  | d :: ds, q => by
    unfold D.pures at q
    rw [Bool.and_eq_true] at q
    unfold D.unders
    rw [under_pure d q.1, unders_pure ds q.2]; rfl
end
theorem pures_map {α : Type} {f : α → D} : ∀ (xs : List α), (∀ x ∈ xs, (f x).pure = true) → D.pures (xs.map f) = true
  | [], _ => by rw [List.map_nil]; unfold D.pures; rfl
  | x :: xs, q => by
    rw [List.map_cons]; unfold D.pures
    rw [q x List.mem_cons_self, pures_map xs fun y hy => q y (List.mem_cons_of_mem _ hy)]; rfl
theorem pures_mem : ∀ {ds : List D}, D.pures ds = true → ∀ d ∈ ds, d.pure = true
  | [], _, _, h => by cases h
  | x :: ds, q, d, h => by
    unfold D.pures at q
    rw [Bool.and_eq_true] at q
    rcases List.mem_cons.mp h with rfl | h
    · exact q.1
    · exact pures_mem q.2 d h
/-- a def that draws, from its body: its own cells `own` go -/
theorem draws_trim {φ : Fn} {d : Def} {args : List D} {good : D → Prop} (hm : d.mode = .trim) (hn : args.length = d.nps)
    (body : ∀ (r : Reel) (rest : Hq), r.Ok → rest.all (Ob.under (rest.length + 2)) = true → Wp (exB φ d.body (args.map some ++ List.replicate (d.names.length - d.nps) none) (r.h rest)) fun f => Wp (endOf f) fun p => ∃ r' own, p.2 = Reel.h r' (rest ++ own) ∧ r'.Ok ∧ p.1.pure = true ∧ good p.1) : Draws (runDef φ d) args good := by
  intro r rest ok u
  unfold runDef
  rw [if_neg (by rw [hn]; simp), hm]
  refine .bind (.bind ((body r rest ok u).mono fun f w => w.mono ?_))
  rintro ⟨x, h'⟩ ⟨r', own, e, ok', px, g⟩
  dsimp only at e px g
  subst e
  have hl : (r.h rest).length = rest.length + 2 := rfl
  have ht : (Reel.h r' (rest ++ own)).take (r.h rest).length = Reel.h r' rest := by
    rw [hl]
    show _ :: _ :: List.take rest.length (rest ++ own) = _
    rw [List.take_left']
    · rfl
    · rfl
  dsimp only
  rw [thaw1_pure px]
  dsimp only
  rw [ht, if_pos (by rw [hl]; exact reel_under u)]
  exact .ok ⟨r', rfl, ok', g⟩
theorem pick_ok {φ : Fn} (hd : DrawOk (φ 2)) {ds : List D} (h0 : ds ≠ []) (h1 : ds.length ≤ 1000000) (hp : D.pures ds = true) : Draws (runDef φ R_pick) [.ref 1, .lst ds] fun x => x ∈ ds := by
  refine draws_trim rfl rfl fun r rest ok u => ?_
  refine FF.x_cons ?_
  refine FF.x_ret ?_
  refine FF.x_ix ?_
  refine FF.x_var (by rfl) ?_
  refine FF.x_call ?_
  refine FF.x_acons ?_
  refine FF.x_var (by rfl) ?_
  refine FF.x_acons ?_
  refine FF.x_bi ?_
  refine FF.x_acons ?_
  refine FF.x_var (by rfl) ?_
  refine FF.x_anil ?_
  refine FF.OkO.of rfl ?_
  refine FF.x_anil ?_
  try dsimp only [List.set_cons_zero, List.set_cons_succ]
  have hl : 0 < ds.length := List.length_pos_iff.mpr h0
  refine (draw_int hd (many := ds.length) (by omega) ?_ r rest ok u).mono ?_
  · have : Nat.log2 ds.length ≤ Nat.log2 1000000 := by
      rw [Nat.le_log2 (by decide)]
      exact Nat.le_trans (Nat.log2_self_le (by omega)) h1
    exact Nat.lt_of_le_of_lt this (by decide +kernel)
  · rintro ⟨x, h'⟩ ⟨r', e, ok', z, e2, z0, z1⟩
    dsimp only at e e2
    subst e; subst e2
    refine o_ixL (at_mod z0 z1) ?_
    refine FF.nxt_rt ?_
    try dsimp only [List.set_cons_zero, List.set_cons_succ]
    refine FF.end_rt ?_
    try dsimp only [List.set_cons_zero, List.set_cons_succ]
    exact ⟨r', [], by rw [List.append_nil], ok', pures_mem hp _ (List.getElem_mem _), List.getElem_mem _⟩
theorem fin {r' : Reel} {rest : Hq} {x : D} {good : D → Prop} (ok : r'.Ok) (px : x.pure = true) (g : good x) : ∃ (r'' : Reel) (own : Hq), Reel.h r' rest = Reel.h r'' (rest ++ own) ∧ r''.Ok ∧ x.pure = true ∧ good x :=
  ⟨r', [], by rw [List.append_nil], ok, px, g⟩
abbrev IntIn (lo hi : Int) : D → Prop := fun x => ∃ z, x = .int z ∧ lo ≤ z ∧ z ≤ hi
abbrev T30 : Int := 1000000000000000000000000000000
def PickOk (f : List D → Hq → R (D × Hq)) : Prop := ∀ ds : List D, ds ≠ [] → ds.length ≤ 1000000 → D.pures ds = true → Draws f [.ref 1, .lst ds] fun x => x ∈ ds
theorem pick_int {f : List D → Hq → R (D × Hq)} (hp : PickOk f) (ns : List Int) (h0 : ns ≠ []) (h1 : ns.length ≤ 1000000) : Draws f [.ref 1, .lst (ns.map .int)] fun x => ∃ z ∈ ns, x = .int z := by
  intro r rest ok u
  refine (hp (ns.map .int) (by simpa using h0) (by rw [List.length_map]; exact h1) (pures_map _ fun _ _ => rfl) r rest ok u).mono ?_
  rintro p ⟨r', e, ok', m⟩
  obtain ⟨z, hz, e2⟩ := List.mem_map.mp m
  exact ⟨r', e, ok', z, hz, e2.symm⟩
theorem size_ok {φ : Fn} (hd : DrawOk (φ 2)) (hp : PickOk (φ 3)) {step : Int} (s0 : 1 ≤ step) (s1 : step ≤ 64) : Draws (runDef φ R_size) [.ref 1, .int step] (IntIn 1 T30) := by
  refine draws_trim rfl rfl fun r rest ok u => ?_
  refine FF.x_cons ?_
  refine FF.x_set ?_
  refine FF.x_tup ?_
  refine FF.x_acons ?_
  refine FF.x_bin ?_
  refine FF.x_var (by rfl) ?_
  refine FF.x_bin ?_
  refine FF.x_const ?_
  refine FF.x_call ?_
  refine FF.x_acons ?_
  refine FF.x_var (by rfl) ?_
  refine FF.x_acons ?_
  refine FF.x_const ?_
  refine FF.x_anil ?_
  try dsimp only [List.set_cons_zero, List.set_cons_succ]
  refine (draw_int hd (many := 6) (by decide) (by decide +kernel) _ _ ok u).mono ?_
  rintro ⟨_, _⟩ ⟨_, ee, ok, z, ee2, z0, z1⟩
  dsimp only at ee ee2
  subst ee; subst ee2
  refine FF.OkO.of rfl ?_
  try dsimp only [List.set_cons_zero, List.set_cons_succ]
  refine o_mul (mulOk_l (by omega) (by omega)) ?_
  have n0 : 1 * 1 ≤ step * (1 + z) := Int.mul_le_mul s0 (by omega) (by decide) (by omega)
  have n1 : step * (1 + z) ≤ 64 * 6 := Int.mul_le_mul s1 (by omega) (by omega) (by decide)
  generalize step * (1 + z) = near at n0 n1
  refine FF.x_acons ?_
  refine FF.x_call ?_
  refine FF.x_acons ?_
  refine FF.x_var (by rfl) ?_
  refine FF.x_acons ?_
  refine FF.x_const ?_
  refine FF.x_anil ?_
  try dsimp only [List.set_cons_zero, List.set_cons_succ]
  refine (draw_int hd (many := 9) (by decide) (by decide +kernel) _ _ ok u).mono ?_
  rintro ⟨_, _⟩ ⟨_, ee, ok, l, ee2, l0, l1⟩
  dsimp only at ee ee2
  subst ee; subst ee2
  refine FF.x_anil ?_
  refine FF.OkO.of rfl ?_
  refine FF.OkO.of rfl ?_
  refine FF.nxt_nx ?_
  try dsimp only [List.set_cons_zero, List.set_cons_succ]
  refine FF.x_cons ?_
  refine FF.x_ite ?_
  refine FF.x_cmp ?_
  refine FF.x_var (by rfl) ?_
  refine FF.x_const ?_
  refine FF.OkO.of rfl ?_
  refine FF.OkO.of rfl ?_
  try dsimp only [List.set_cons_zero, List.set_cons_succ]
  refine ⟨fun c => ?_, fun c => ?_⟩
  · refine FF.x_cons ?_
    refine FF.x_ret ?_
    refine FF.x_var (by rfl) ?_
    refine FF.nxt_rt ?_
    try dsimp only [List.set_cons_zero, List.set_cons_succ]
    refine FF.nxt_rt ?_
    try dsimp only [List.set_cons_zero, List.set_cons_succ]
    refine FF.end_rt ?_
    try dsimp only [List.set_cons_zero, List.set_cons_succ]
    exact fin ok rfl ⟨_, rfl, by omega, by unfold T30; omega⟩
  refine FF.x_nil ?_
  refine FF.nxt_nx ?_
  try dsimp only [List.set_cons_zero, List.set_cons_succ]
  refine FF.x_cons ?_
  refine FF.x_ite ?_
  refine FF.x_cmp ?_
  refine FF.x_var (by rfl) ?_
  refine FF.x_const ?_
  refine FF.OkO.of rfl ?_
  refine FF.OkO.of rfl ?_
  try dsimp only [List.set_cons_zero, List.set_cons_succ]
  refine ⟨fun c => ?_, fun c => ?_⟩
  · refine FF.x_cons ?_
    refine FF.x_ret ?_
    refine FF.x_bi ?_
    refine FF.x_acons ?_
    refine FF.x_const ?_
    refine FF.x_acons ?_
    refine FF.x_bin ?_
    refine FF.x_var (by rfl) ?_
    refine FF.x_call ?_
    refine FF.x_acons ?_
    refine FF.x_var (by rfl) ?_
    refine FF.x_acons ?_
    refine FF.x_lst ?_
    refine FF.x_acons ?_
    refine FF.x_neg ?_
    refine FF.x_const ?_
    refine FF.OkO.of rfl ?_
    refine FF.x_acons ?_
    refine FF.x_const ?_
    refine FF.x_acons ?_
    refine FF.x_neg ?_
    refine FF.x_const ?_
    refine FF.OkO.of rfl ?_
    refine FF.x_acons ?_
    refine FF.x_const ?_
    refine FF.x_anil ?_
    refine FF.OkO.of rfl ?_
    refine FF.x_anil ?_
    try dsimp only [List.set_cons_zero, List.set_cons_succ]
    refine (pick_int hp [-1, 1, -2, 3] (by simp) (by simp) _ _ ok u).mono ?_
    rintro ⟨_, _⟩ ⟨_, ee, ok, y, hy, ee2⟩
    dsimp only at ee ee2
    subst ee; subst ee2
    have y0 : -3 ≤ y ∧ y ≤ 3 := by
      simp at hy; omega
    refine FF.OkO.of rfl ?_
    refine FF.x_anil ?_
    refine FF.OkO.of rfl ?_
    refine FF.nxt_rt ?_
    try dsimp only [List.set_cons_zero, List.set_cons_succ]
    refine FF.nxt_rt ?_
    try dsimp only [List.set_cons_zero, List.set_cons_succ]
    refine FF.end_rt ?_
    try dsimp only [List.set_cons_zero, List.set_cons_succ]
    refine fin ok rfl ⟨_, rfl, ?_, ?_⟩ <;> (try unfold T30) <;> split <;> omega
  refine FF.x_nil ?_
  refine FF.nxt_nx ?_
  try dsimp only [List.set_cons_zero, List.set_cons_succ]
  refine FF.x_cons ?_
  refine FF.x_ite ?_
  refine FF.x_cmp ?_
  refine FF.x_var (by rfl) ?_
  refine FF.x_const ?_
  refine FF.OkO.of rfl ?_
  refine FF.OkO.of rfl ?_
  try dsimp only [List.set_cons_zero, List.set_cons_succ]
  refine ⟨fun c => ?_, fun c => ?_⟩
  · refine FF.x_cons ?_
    refine FF.x_ret ?_
    refine FF.x_bin ?_
    refine FF.x_const ?_
    refine FF.x_call ?_
    refine FF.x_acons ?_
    refine FF.x_var (by rfl) ?_
    refine FF.x_acons ?_
    refine FF.x_const ?_
    refine FF.x_anil ?_
    try dsimp only [List.set_cons_zero, List.set_cons_succ]
    refine (draw_int hd (many := 40) (by decide) (by decide +kernel) _ _ ok u).mono ?_
    rintro ⟨_, _⟩ ⟨_, ee, ok, y, ee2, y0, y1⟩
    dsimp only at ee ee2
    subst ee; subst ee2
    refine FF.OkO.of rfl ?_
    refine FF.nxt_rt ?_
    try dsimp only [List.set_cons_zero, List.set_cons_succ]
    refine FF.nxt_rt ?_
    try dsimp only [List.set_cons_zero, List.set_cons_succ]
    refine FF.end_rt ?_
    try dsimp only [List.set_cons_zero, List.set_cons_succ]
    exact fin ok rfl ⟨_, rfl, by omega, by unfold T30; omega⟩
  refine FF.x_nil ?_
  refine FF.nxt_nx ?_
  try dsimp only [List.set_cons_zero, List.set_cons_succ]
  refine FF.x_cons ?_
  refine FF.x_set ?_
  refine FF.x_bin ?_
  refine FF.x_bin ?_
  refine FF.x_const ?_
  refine FF.x_const ?_
  refine FF.OkO.of rfl ?_
  refine FF.x_bin ?_
  refine FF.x_var (by rfl) ?_
  refine FF.x_call ?_
  refine FF.x_acons ?_
  refine FF.x_var (by rfl) ?_
  refine FF.x_acons ?_
  refine FF.x_const ?_
  refine FF.x_anil ?_
  try dsimp only [List.set_cons_zero, List.set_cons_succ]
  refine (draw_int hd (many := 9) (by decide) (by decide +kernel) _ _ ok u).mono ?_
  rintro ⟨_, _⟩ ⟨_, ee, ok, y, ee2, y0, y1⟩
  dsimp only at ee ee2
  subst ee; subst ee2
  try dsimp only [List.set_cons_zero, List.set_cons_succ]
  refine o_mul (mulOk_l (by omega) (by omega)) ?_
  have w0 : 0 * 0 ≤ step * y := Int.mul_le_mul (by omega) y0 (by decide) (by omega)
  have w1 : step * y ≤ 64 * 8 := Int.mul_le_mul s1 (by omega) y0 (by decide)
  generalize step * y = w at w0 w1
  refine FF.OkO.of rfl ?_
  refine FF.OkO.of rfl ?_
  refine FF.nxt_nx ?_
  try dsimp only [List.set_cons_zero, List.set_cons_succ]
  refine FF.x_cons ?_
  refine FF.x_set ?_
  refine FF.x_call ?_
  refine FF.x_acons ?_
  refine FF.x_var (by rfl) ?_
  refine FF.x_acons ?_
  refine FF.x_lst ?_
  refine FF.x_acons ?_
  refine FF.x_const ?_
  refine FF.x_acons ?_
  refine FF.x_const ?_
  refine FF.x_acons ?_
  refine FF.x_neg ?_
  refine FF.x_const ?_
  refine FF.OkO.of rfl ?_
  refine FF.x_acons ?_
  refine FF.x_const ?_
  refine FF.x_acons ?_
  refine FF.x_bin ?_
  refine FF.x_neg ?_
  refine FF.x_var (by rfl) ?_
  refine FF.OkO.of rfl ?_
  refine FF.x_const ?_
  refine FF.OkO.of rfl ?_
  refine FF.x_acons ?_
  refine FF.x_bin ?_
  refine FF.x_const ?_
  refine FF.x_bin ?_
  refine FF.x_call ?_
  refine FF.x_acons ?_
  refine FF.x_var (by rfl) ?_
  refine FF.x_acons ?_
  refine FF.x_bin ?_
  refine FF.x_const ?_
  refine FF.x_const ?_
  refine FF.OkO.of rfl ?_
  refine FF.x_anil ?_
  try dsimp only [List.set_cons_zero, List.set_cons_succ]
  refine (draw_int hd (many := (10 ^ Int.toNat 6)) (by decide) (by decide +kernel) _ _ ok u).mono ?_
  rintro ⟨_, _⟩ ⟨_, ee, ok, v, ee2, v0, v1⟩
  dsimp only at ee ee2
  subst ee; subst ee2
  have e6 : (10 : Int) ^ Int.toNat 6 = 1000000 := by decide
  have e23 : (10 : Int) ^ Int.toNat 23 = 100000000000000000000000 := by decide
  have e30 : (10 : Int) ^ Int.toNat 30 = T30 := by decide
  rw [e6] at v1
  refine FF.x_bin ?_
  refine FF.x_const ?_
  refine FF.x_const ?_
  refine FF.OkO.of rfl ?_
  try dsimp only [List.set_cons_zero, List.set_cons_succ]
  refine o_mul (mulOk_l (by omega) (by omega)) ?_
  refine FF.OkO.of rfl ?_
  refine FF.x_anil ?_
  refine FF.OkO.of rfl ?_
  refine FF.x_anil ?_
  try dsimp only [List.set_cons_zero, List.set_cons_succ]
  refine (pick_int hp [0, 0, -1, 1, -step / 2, 0 - v * 10 ^ Int.toNat 23] (by simp) (by simp) _ _ ok u).mono ?_
  rintro ⟨_, _⟩ ⟨_, ee, ok, x, hx, ee2⟩
  dsimp only at ee ee2
  subst ee; subst ee2
  have x1 : x ≤ 1 := by
    simp only [List.mem_cons, List.not_mem_nil, or_false, e23] at hx
    omega
  refine FF.OkO.of rfl ?_
  refine FF.nxt_nx ?_
  try dsimp only [List.set_cons_zero, List.set_cons_succ]
  refine FF.x_cons ?_
  refine FF.x_ret ?_
  refine FF.x_bi ?_
  refine FF.x_acons ?_
  refine FF.x_bin ?_
  refine FF.x_const ?_
  refine FF.x_const ?_
  refine FF.OkO.of rfl ?_
  refine FF.x_acons ?_
  refine FF.x_bi ?_
  refine FF.x_acons ?_
  refine FF.x_const ?_
  refine FF.x_acons ?_
  refine FF.x_bin ?_
  refine FF.x_var (by rfl) ?_
  refine FF.x_var (by rfl) ?_
  refine FF.OkO.of rfl ?_
  refine FF.x_anil ?_
  refine FF.OkO.of rfl ?_
  refine FF.x_anil ?_
  refine FF.OkO.of rfl ?_
  refine FF.nxt_rt ?_
  try dsimp only [List.set_cons_zero, List.set_cons_succ]
  refine FF.end_rt ?_
  try dsimp only [List.set_cons_zero, List.set_cons_succ]
  rw [e30]
  refine fin ok rfl ⟨_, rfl, ?_, ?_⟩ <;> (try unfold T30) <;> (repeat' split) <;> omega
abbrev Pow2 (a : Int) : Prop := a = 1 ∨ a = 2 ∨ a = 4 ∨ a = 8 ∨ a = 16 ∨ a = 32 ∨ a = 64
/-- a kind of a book: size and alignment -/
structure Kind (k : Int × Int) : Prop where
  s0 : 1 ≤ k.1
  s1 : k.1 ≤ T30
  a0 : 1 ≤ k.2
  a1 : k.2 ≤ 64
  ap : Pow2 k.2
def kindD (k : Int × Int) : D := .tup [.int k.1, .int k.2]
def bookD (b : List (Int × Int)) : D := .tup (b.map kindD)
abbrev BookIn (many : Nat) : D → Prop := fun x => ∃ b, x = bookD b ∧ b.length = many ∧ ∀ k ∈ b, Kind k
theorem kind_pure (k : Int × Int) : (kindD k).pure = true := rfl
theorem reel_at {r : Reel} {rest : Hq} {c : Ob} : (Reel.h r (rest ++ [c]))[rest.length + 2]? = some c := by
  unfold Reel.h
  simp
theorem reel_set {r : Reel} {rest : Hq} {c d : Ob} : (Reel.h r (rest ++ [c])).set (rest.length + 2) d = Reel.h r (rest ++ [d]) := by
  unfold Reel.h
  simp
mutual
theorem D.under_mono {n m : Nat} (hl : n ≤ m) : ∀ d : D, d.under n = true → d.under m = true
  | .non, _ => by unfold D.under; rfl
  | .bl _, _ => by unfold D.under; rfl
  | .int _, _ => by unfold D.under; rfl
  | .str _, _ => by unfold D.under; rfl
  | .tup ds, q => by unfold D.under at q ⊢; exact D.unders_mono hl ds q
  | .lst ds, q => by unfold D.under at q ⊢; exact D.unders_mono hl ds q
  | .scr _, _ => by unfold D.under; rfl
  | .ktp _, _ => by unfold D.under; rfl
  | .kpp _, _ => by unfold D.under; rfl
  | .ref _, q => by unfold D.under at q ⊢; exact decide_eq_true (Nat.lt_of_lt_of_le (of_decide_eq_true q) hl)
  | .dct ds, q => by unfold D.under at q ⊢; exact D.unders_mono hl ds q
  | .exn _ ds, q => by unfold D.under at q ⊢; exact D.unders_mono hl ds q
  | .opq _, _ => by unfold D.under; rfl
theorem D.unders_mono {n m : Nat} (hl : n ≤ m) : ∀ ds : List D, D.unders n ds = true → D.unders m ds = true
  | [], _ => by unfold D.unders; rfl
  | d :: ds, q => by
    unfold D.unders at q ⊢
    rw [Bool.and_eq_true] at q
    rw [D.under_mono hl d q.1, D.unders_mono hl ds q.2]; rfl
end
theorem kvs_mono {κ : Type} {n m : Nat} (hl : n ≤ m) {kvs : List (κ × D)} (h : (kvs.all fun p => p.2.under n) = true) : (kvs.all fun p => p.2.under m) = true := by
  rw [List.all_eq_true] at h ⊢
  exact fun x hx => D.under_mono hl _ (h x hx)
theorem Ob.under_mono {n m : Nat} (hl : n ≤ m) : ∀ {o : Ob}, o.under n = true → o.under m = true
  | .lst ds, h => D.unders_mono hl ds h
  | .dct kvs, h => kvs_mono hl h
  | .dctT kvs, h => kvs_mono hl h
  | .dctN kvs, h => by
    have h : (kvs.all fun p => p.1.under n && p.2.under n) = true := h
    show (kvs.all fun p => p.1.under m && p.2.under m) = true
    rw [List.all_eq_true] at h ⊢
    intro x hx
    have := h x hx
    rw [Bool.and_eq_true] at this ⊢
    exact ⟨D.under_mono hl _ this.1, D.under_mono hl _ this.2⟩
  | .ins _ fs, h => kvs_mono hl h
  | .dead, _ => rfl
theorem rest_app {rest : Hq} {ds : List D} (u : rest.all (Ob.under (rest.length + 2)) = true) (p : D.pures ds = true) : (rest ++ [Ob.lst ds]).all (Ob.under ((rest ++ [Ob.lst ds]).length + 2)) = true := by
  rw [List.all_append, List.all_cons, List.all_nil, Bool.and_true, Bool.and_eq_true, List.length_append]
  refine ⟨?_, unders_pure ds p⟩
  rw [List.all_eq_true] at u ⊢
  exact fun x hx => Ob.under_mono (by simp) (u x hx)
theorem o_kindR {r : Reel} {rest : Hq} {ds : List D} {m : Me} {PK : Kd → Prop} (hf : meFits m .lst = true) (p : PK .lst) : OkO (meKind m (.ref (rest.length + 2)) (Reel.h r (rest ++ [.lst ds]))) PK := o_kind reel_at hf p
theorem o_appR {r : Reel} {rest : Hq} {ds : List D} {d : D} {P : D × Hq → Prop} (hl : ds.length < 16777216) (p : P (.non, Reel.h r (rest ++ [.lst (ds ++ [d])]))) : OkO (meD .lst .append (.ref (rest.length + 2)) [d] (Reel.h r (rest ++ [.lst ds]))) P := by
  refine o_app reel_at hl ?_
  rw [reel_set]; exact p
theorem o_setR {r : Reel} {rest : Hq} {ds : List D} {i : Int} {j : Nat} {d : D} {P : Hq → Prop} (hi : L2.ixN ds.length i = some j) (p : P (Reel.h r (rest ++ [.lst (ds.set j d)]))) : OkO (setD (.ref (rest.length + 2)) (.int i) d (Reel.h r (rest ++ [.lst ds]))) P := by
  refine ⟨_, ?_, p⟩
  simp only [setD, reel_at, hi, hset, reel_set]
theorem o_ixRR {r : Reel} {rest : Hq} {ds : List D} {i : Int} {d : D} {P : D × Hq → Prop} (e : at? ds i = some d) (p : P (d, Reel.h r (rest ++ [.lst ds]))) : OkO (ixD (.ref (rest.length + 2)) (.int i) (Reel.h r (rest ++ [.lst ds]))) P := o_ixR reel_at e p
theorem o_tupR {r : Reel} {rest : Hq} {ds : List D} {P : D × Hq → Prop} (p : P (.tup ds, Reel.h r (rest ++ [.lst ds]))) : OkO (biD .tuple false [.ref (rest.length + 2)] (Reel.h r (rest ++ [.lst ds]))) P := by
  refine ⟨_, ?_, p⟩
  simp only [biD, un1, tupleD, sqlOf, FF.lstOf, reel_at]
theorem ixN_at {n j : Nat} (h : j < n) : L2.ixN n (j : Int) = some j := by
  unfold L2.ixN
  rw [if_pos (by omega), if_pos (by omega)]; simp
theorem book_ok {φ : Fn} (hd : DrawOk (φ 2)) (hp : PickOk (φ 3)) (hz : ∀ step : Int, 1 ≤ step → step ≤ 64 → Draws (φ 4) [.ref 1, .int step] (IntIn 1 T30)) {many : Nat} (m1 : many ≤ 1000) : Draws (runDef φ R_book) [.ref 1, .int many] (BookIn many) := by
  refine draws_trim rfl rfl fun r rest ok u => ?_
  refine FF.x_cons ?_
  refine FF.x_set ?_
  refine FF.x_lst ?_
  refine FF.x_anil ?_
  refine FF.OkO.of rfl ?_
  refine FF.OkO.of rfl ?_
  refine FF.nxt_nx ?_
  try dsimp only [List.set_cons_zero, List.set_cons_succ]
  refine FF.x_cons ?_
  refine FF.x_for ?_
  refine FF.x_range1 ?_
  refine FF.x_var (by rfl) ?_
  refine FF.o_rng1 (by omega) (by omega) ?_
  try dsimp only [List.set_cons_zero, List.set_cons_succ]
  refine wp_loopF (fun k s h => ∃ b d3 d4 r', s = [some (.ref 1), some (.int many), some (.ref (rest.length + 2)), d3, d4] ∧ h = Reel.h r' (rest ++ [.lst (b.map kindD)]) ∧ r'.Ok ∧ b.length = k ∧ ∀ k ∈ b, Kind k) _ 0 _ _ ⟨[], _, _, r, rfl, rfl, ok, rfl, by simp⟩ ?_ ?_
  · rintro i d s h e ⟨b, d3, d4, r', rfl, rfl, ok, hb, hk⟩
    obtain ⟨rfl, hi⟩ := rangeL_get e
    have u' := rest_app u (pures_map b fun k _ => kind_pure k)
    rw [Nat.zero_add] at hb
    refine ⟨rfl, ?_⟩
    refine FF.x_stepL ?_
    refine FF.OkO.of rfl ?_
    refine FF.x_cons ?_
    refine FF.x_set ?_
    refine FF.x_call ?_
    refine FF.x_acons ?_
    refine FF.x_var (by rfl) ?_
    refine FF.x_acons ?_
    refine FF.x_lst ?_
    refine FF.x_acons ?_
    refine FF.x_const ?_
    refine FF.x_acons ?_
    refine FF.x_const ?_
    refine FF.x_acons ?_
    refine FF.x_const ?_
    refine FF.x_acons ?_
    refine FF.x_const ?_
    refine FF.x_acons ?_
    refine FF.x_const ?_
    refine FF.x_acons ?_
    refine FF.x_const ?_
    refine FF.x_acons ?_
    refine FF.x_const ?_
    refine FF.x_acons ?_
    refine FF.x_const ?_
    refine FF.x_acons ?_
    refine FF.x_const ?_
    refine FF.x_acons ?_
    refine FF.x_const ?_
    refine FF.x_anil ?_
    refine FF.OkO.of rfl ?_
    refine FF.x_anil ?_
    try dsimp only [List.set_cons_zero, List.set_cons_succ]
    refine (pick_int hp [1, 1, 2, 2, 4, 4, 8, 16, 32, 64] (by simp) (by simp) _ _ ok u').mono ?_
    rintro ⟨_, _⟩ ⟨_, ee, ok, st, hst, ee2⟩
    dsimp only at ee ee2
    subst ee; subst ee2
    have st0 : 1 ≤ st ∧ st ≤ 64 := by simp at hst; omega
    have stp : Pow2 st := by simp at hst; unfold Pow2; omega
    refine FF.OkO.of rfl ?_
    refine FF.nxt_nx ?_
    try dsimp only [List.set_cons_zero, List.set_cons_succ]
    refine FF.x_cons ?_
    refine FF.x_expr ?_
    refine FF.x_me ?_
    refine FF.x_var (by rfl) ?_
    try dsimp only [List.set_cons_zero, List.set_cons_succ]
    refine o_kindR rfl ?_
    refine FF.x_acons ?_
    refine FF.x_tup ?_
    refine FF.x_acons ?_
    refine FF.x_call ?_
    refine FF.x_acons ?_
    refine FF.x_var (by rfl) ?_
    refine FF.x_acons ?_
    refine FF.x_var (by rfl) ?_
    refine FF.x_anil ?_
    try dsimp only [List.set_cons_zero, List.set_cons_succ]
    refine (hz st st0.1 st0.2 _ _ ok u').mono ?_
    rintro ⟨_, _⟩ ⟨r2, e1, ok, z, e2, z0, z1⟩
    dsimp only at e1 e2
    subst e1; subst e2
    refine FF.x_acons ?_
    refine FF.x_var (by rfl) ?_
    refine FF.x_anil ?_
    refine FF.OkO.of rfl ?_
    refine FF.x_anil ?_
    try dsimp only [List.set_cons_zero, List.set_cons_succ]
    refine o_appR (by rw [List.length_map]; omega) ?_
    have hk2 : ∀ k ∈ b ++ [(z, st)], Kind k := by
      intro k hm
      rcases List.mem_append.mp hm with hm | hm
      · exact hk k hm
      · rw [List.mem_singleton] at hm; subst hm; exact ⟨z0, z1, st0.1, st0.2, stp⟩
    have eb : b.map kindD ++ [.tup [.int z, .int st]] = (b ++ [(z, st)]).map kindD := by rw [List.map_append]; rfl
    rw [eb]
    have hl2 : (b ++ [(z, st)]).length = i + 1 := by rw [List.length_append, hb]; rfl
    generalize b ++ [(z, st)] = b2 at hk2 hl2
    have u2 := rest_app u (pures_map b2 fun k _ => kind_pure k)
    have done : ∀ r' : Reel, r'.Ok → ∃ (b : List (Int × Int)) (d3 d4 : Option D) (r'' : Reel), [some (D.ref 1), some (.int many), some (.ref (rest.length + 2)), some (.int (0 + (i : Int))), some (.int st)] = [some (D.ref 1), some (.int many), some (.ref (rest.length + 2)), d3, d4] ∧ Reel.h r' (rest ++ [.lst (b2.map kindD)]) = Reel.h r'' (rest ++ [.lst (b.map kindD)]) ∧ r''.Ok ∧ b.length = 0 + i + 1 ∧ ∀ k ∈ b, Kind k :=
      fun r' ok => ⟨b2, _, _, r', rfl, rfl, ok, by omega, hk2⟩
    refine FF.nxt_nx ?_
    try dsimp only [List.set_cons_zero, List.set_cons_succ]
    refine FF.x_cons ?_
    refine FF.x_ite ?_
    refine FF.x_and ?_
    refine FF.x_cmp ?_
    refine FF.x_var (by rfl) ?_
    refine FF.x_const ?_
    refine FF.OkO.of rfl ?_
    refine FF.OkO.of rfl ?_
    try dsimp only [List.set_cons_zero, List.set_cons_succ]
    refine ⟨fun c => ?_, fun c => ?_⟩
    · refine FF.x_cmp ?_
      refine FF.x_call ?_
      refine FF.x_acons ?_
      refine FF.x_var (by rfl) ?_
      refine FF.x_acons ?_
      refine FF.x_const ?_
      refine FF.x_anil ?_
      try dsimp only [List.set_cons_zero, List.set_cons_succ]
      refine (draw_int hd (many := 9) (by decide) (by decide +kernel) _ _ ok u2).mono ?_
      rintro ⟨_, _⟩ ⟨_, ee, ok, q, ee2, q0, q1⟩
      dsimp only at ee ee2
      subst ee; subst ee2
      refine FF.x_const ?_
      refine FF.OkO.of rfl ?_
      refine FF.OkO.of rfl ?_
      try dsimp only [List.set_cons_zero, List.set_cons_succ]
      refine ⟨fun c2 => ?_, fun c2 => ?_⟩
      · refine FF.x_cons ?_
        refine FF.x_setIx ?_
        refine FF.x_ix ?_
        refine FF.x_var (by rfl) ?_
        refine FF.x_bin ?_
        refine FF.x_var (by rfl) ?_
        refine FF.x_const ?_
        refine FF.OkO.of rfl ?_
        try dsimp only [List.set_cons_zero, List.set_cons_succ]
        have hi1 : 0 < i := by have := of_decide_eq_true c; omega
        have ea : at? (b2.map kindD) (0 + (i : Int) - 1) = some (kindD (b2[i - 1]'(by omega))) := by
          rw [show (0 + (i : Int) - 1) = ((i - 1 : Nat) : Int) by omega]
          unfold at?
          refine atI_nat (j := i - 1) ?_
          rw [List.getElem?_map, List.getElem?_eq_getElem (by omega)]; rfl
        refine o_ixRR ea ?_
        refine FF.x_var (by rfl) ?_
        refine FF.x_var (by rfl) ?_
        try dsimp only [List.set_cons_zero, List.set_cons_succ]
        refine o_setR (j := i) (by rw [List.length_map, hl2, Int.zero_add]; exact ixN_at (Nat.lt_succ_self i)) ?_
        refine FF.nxt_nx ?_
        try dsimp only [List.set_cons_zero, List.set_cons_succ]
        refine FF.x_nil ?_
        refine FF.nxt_nx ?_
        try dsimp only [List.set_cons_zero, List.set_cons_succ]
        refine FF.x_nil ?_
        try dsimp only [List.set_cons_zero, List.set_cons_succ]
        refine ⟨b2.set i (b2[i - 1]'(by omega)), _, _, _, rfl, ?_, ok, by rw [List.length_set]; omega, fun k hm => ?_⟩
        · rw [List.map_set]
        · rcases List.mem_or_eq_of_mem_set hm with hm | rfl
          · exact hk2 k hm
          · exact hk2 _ (List.getElem_mem _)
      · refine FF.x_nil ?_
        refine FF.nxt_nx ?_
        try dsimp only [List.set_cons_zero, List.set_cons_succ]
        refine FF.x_nil ?_
        try dsimp only [List.set_cons_zero, List.set_cons_succ]
        exact done _ ok
    · refine FF.OkO.of rfl ?_
      try dsimp only [List.set_cons_zero, List.set_cons_succ]
      rw [c]
      refine FF.Cd.ff ?_
      refine FF.x_nil ?_
      refine FF.nxt_nx ?_
      try dsimp only [List.set_cons_zero, List.set_cons_succ]
      refine FF.x_nil ?_
      try dsimp only [List.set_cons_zero, List.set_cons_succ]
      exact done _ ok
  · rintro s h ⟨b, d3, d4, r', rfl, rfl, ok, hb, hk⟩
    refine ⟨rfl, ?_⟩
    refine FF.nxt_nx ?_
    try dsimp only [List.set_cons_zero, List.set_cons_succ]
    refine FF.x_cons ?_
    refine FF.x_ret ?_
    refine FF.x_bi ?_
    refine FF.x_acons ?_
    refine FF.x_var (by rfl) ?_
    refine FF.x_anil ?_
    try dsimp only [List.set_cons_zero, List.set_cons_succ]
    refine o_tupR ?_
    refine FF.nxt_rt ?_
    try dsimp only [List.set_cons_zero, List.set_cons_succ]
    refine FF.end_rt ?_
    try dsimp only [List.set_cons_zero, List.set_cons_succ]
    refine ⟨r', [.lst (b.map kindD)], rfl, ok, ?_, b, rfl, ?_, hk⟩
    · unfold D.pure; exact pures_map b fun k _ => kind_pure k
    · rw [hb, rangeL_len]; simp
theorem log_small {n : Nat} (h0 : 0 < n) (h1 : n ≤ 1000000) : (n : Int).natAbs.log2 < 9000 := by
  have : Nat.log2 n ≤ Nat.log2 1000000 := by
    rw [Nat.le_log2 (by decide)]
    exact Nat.le_trans (Nat.log2_self_le (by omega)) h1
  exact Nat.lt_of_le_of_lt this (by decide +kernel)
abbrev RowIn (n : Nat) (many : Nat) : D → Prop := fun x => ∃ ns : List Int, x = .tup (ns.map .int) ∧ ns.length = many ∧ ∀ z ∈ ns, 0 ≤ z ∧ z < n
theorem cut_few {α : Type} {xs : List α} {k : Nat} (h : xs.length ≤ k) : cut xs none (some (k : Int)) = xs := by
  unfold cut
  rw [HT.sIx_none, HT.sIx_nat, List.drop_zero, Nat.min_eq_right h, Nat.sub_zero, List.take_length]
theorem o_addL {a b : List D} {h : Hq} {P : D × Hq → Prop} (hl : a.length + b.length ≤ 16777216) (p : P (.lst (a ++ b), h)) : OkO (binop .Add false (.lst a) (.lst b) h) P := ⟨_, by simp [binop, addD, FF.lstOf, mkL, lineOk, hl], p⟩
theorem ints_get {ns : List Int} {i : Nat} {d : D} (e : (ns.map D.int)[i]? = some d) : ∃ z ∈ ns, d = .int z := by
  rw [List.getElem?_map] at e
  cases q : ns[i]? with
  | none => rw [q] at e; cases e
  | some z => rw [q] at e; cases e; exact ⟨z, List.mem_of_getElem? q, rfl⟩
/-- the reel of a script -/
theorem reel_ok {φ : Fn} {ns : List Int} (hl : ns.length ≤ 63) : Wp (runDef φ R_reel [.scr ns] []) fun p => p.1 = .ref 1 ∧ ∃ r, p.2 = Reel.h r [] ∧ r.Ok := by
  unfold runDef
  rw [if_neg (by simp [R_reel])]
  refine .bind ?_
  refine FF.x_cons ?_
  refine FF.x_set ?_
  refine FF.x_tup ?_
  refine FF.x_acons ?_
  refine FF.x_comp ?_
  refine FF.x_iex ?_
  refine FF.x_slice ?_
  refine FF.x_var (by rfl) ?_
  refine FF.x_no ?_
  refine FF.x_yes ?_
  refine FF.x_const ?_
  try dsimp only [List.set_cons_zero, List.set_cons_succ]
  refine ⟨63, rfl, ?_⟩
  refine FF.OkO.of rfl ?_
  refine FF.OkO.of rfl ?_
  try dsimp only [List.set_cons_zero, List.set_cons_succ]
  rw [show (some (63 : Int)) = some ((63 : Nat) : Int) from rfl, cut_few (k := 63) (by rw [List.length_map]; exact hl)]
  refine wp_turns (fun k acc h => ∃ cs : List Int, acc = cs.map .int ∧ cs.length = k ∧ h = []) _ 0 _ _ ⟨[], rfl, rfl, rfl⟩ ?_ ?_
  · rintro i d acc h e ⟨cs, rfl, hc, rfl⟩
    obtain ⟨z, _, rfl⟩ := ints_get e
    have hi := (List.getElem?_eq_some_iff.mp e).1
    rw [List.length_map] at hi
    have fin : ∀ x : Int, ∃ cs' : List Int, cs.map D.int ++ [.int x] = cs'.map .int ∧ cs'.length = 0 + i + 1 ∧ ([] : Hq) = [] := fun x => ⟨cs ++ [x], by rw [List.map_append]; rfl, by rw [List.length_append, hc]; rfl, rfl⟩
    refine ⟨rfl, by rw [List.length_map]; omega, ?_⟩
    refine FF.x_stepC ?_
    refine FF.OkO.of rfl ?_
    refine FF.x_if0 ?_
    refine FF.Cd.tt ?_
    refine FF.x_ife ?_
    refine FF.x_cmp ?_
    refine FF.x_var (by rfl) ?_
    refine FF.x_const ?_
    refine FF.OkO.of rfl ?_
    refine FF.OkO.of rfl ?_
    try dsimp only [List.set_cons_zero, List.set_cons_succ]
    refine ⟨fun c => ?_, fun c => ?_⟩
    · refine FF.x_bin ?_
      refine FF.x_const ?_
      refine FF.x_var (by rfl) ?_
      refine FF.OkO.of rfl ?_
      try dsimp only [List.set_cons_zero, List.set_cons_succ]
      exact fin _
    · refine FF.x_bin ?_
      refine FF.x_bin ?_
      refine FF.x_neg ?_
      refine FF.x_const ?_
      refine FF.OkO.of rfl ?_
      refine FF.x_var (by rfl) ?_
      refine FF.OkO.of rfl ?_
      refine FF.x_const ?_
      refine FF.OkO.of rfl ?_
      try dsimp only [List.set_cons_zero, List.set_cons_succ]
      exact fin _
  · rintro acc h ⟨cs, rfl, hc, rfl⟩
    refine ⟨rfl, ?_⟩
    rw [Nat.zero_add, List.length_map] at hc
    have hcl : cs.length ≤ 63 := by omega
    try dsimp only [List.set_cons_zero, List.set_cons_succ]
    refine o_lst (by rw [List.length_map]; omega) ?_
    refine FF.x_acons ?_
    refine FF.x_bin ?_
    refine FF.x_bi ?_
    refine FF.x_acons ?_
    refine FF.x_var (by rfl) ?_
    refine FF.x_anil ?_
    refine FF.OkO.of rfl ?_
    refine FF.x_const ?_
    refine FF.OkO.of rfl ?_
    refine FF.x_anil ?_
    refine FF.OkO.of rfl ?_
    refine FF.OkO.of rfl ?_
    refine FF.nxt_nx ?_
    try dsimp only [List.set_cons_zero, List.set_cons_succ]
    refine FF.x_cons ?_
    refine FF.x_for ?_
    refine FF.x_iex ?_
    refine FF.x_var (by rfl) ?_
    refine FF.OkO.of rfl ?_
    try dsimp only [List.set_cons_zero, List.set_cons_succ]
    refine wp_loopF (fun k s h => ∃ (st : Int) (d3 : Option D), s = [some (.scr ns), some (.lst (cs.map .int)), some (.int st), d3, none] ∧ h = [] ∧ 0 ≤ st ∧ st < 4294967296) _ 0 _ _ ⟨_, _, rfl, rfl, by omega, by rw [List.length_map]; omega⟩ ?_ ?_
    · rintro i d s h e ⟨st, d3, rfl, rfl, s0, s1⟩
      obtain ⟨z, _, rfl⟩ := ints_get e
      refine ⟨rfl, ?_⟩
      refine FF.x_stepL ?_
      refine FF.OkO.of rfl ?_
      refine FF.x_cons ?_
      refine FF.x_set ?_
      refine FF.x_bin ?_
      refine FF.x_bi ?_
      refine FF.x_acons ?_
      refine FF.x_bin ?_
      refine FF.x_bin ?_
      refine FF.x_bin ?_
      refine FF.x_var (by rfl) ?_
      refine FF.x_const ?_
      try dsimp only [List.set_cons_zero, List.set_cons_succ]
      refine o_mul (mulOk_r (by decide) (by decide)) ?_
      refine FF.x_bin ?_
      refine FF.x_var (by rfl) ?_
      refine FF.x_const ?_
      try dsimp only [List.set_cons_zero, List.set_cons_succ]
      refine o_mul (mulOk_r (by decide) (by decide)) ?_
      refine FF.OkO.of rfl ?_
      refine FF.x_const ?_
      refine FF.OkO.of rfl ?_
      refine FF.x_anil ?_
      refine FF.OkO.of rfl ?_
      refine FF.x_const ?_
      refine FF.OkO.of rfl ?_
      refine FF.OkO.of rfl ?_
      refine FF.nxt_nx ?_
      try dsimp only [List.set_cons_zero, List.set_cons_succ]
      refine FF.x_nil ?_
      try dsimp only [List.set_cons_zero, List.set_cons_succ]
      exact ⟨_, _, rfl, rfl, Int.emod_nonneg _ (by decide), Int.lt_trans (Int.emod_lt_of_pos _ (by decide)) (by decide)⟩
    · rintro s h ⟨st, d3, rfl, rfl, s0, s1⟩
      refine ⟨rfl, ?_⟩
      refine FF.nxt_nx ?_
      try dsimp only [List.set_cons_zero, List.set_cons_succ]
      refine FF.x_cons ?_
      refine FF.x_set ?_
      refine FF.x_comp ?_
      refine FF.x_iex ?_
      refine FF.x_var (by rfl) ?_
      refine FF.OkO.of rfl ?_
      try dsimp only [List.set_cons_zero, List.set_cons_succ]
      refine wp_turns (fun k acc h => ∃ ds : List Int, acc = ds.map .int ∧ ds.length ≤ k ∧ h = []) _ 0 _ _ ⟨[], rfl, Nat.le_refl _, rfl⟩ ?_ ?_
      · rintro i d acc h e ⟨ds, rfl, hd, rfl⟩
        obtain ⟨z, _, rfl⟩ := ints_get e
        have hi := (List.getElem?_eq_some_iff.mp e).1
        rw [List.length_map] at hi
        refine ⟨rfl, by rw [List.length_map]; omega, ?_⟩
        refine FF.x_stepC ?_
        refine FF.OkO.of rfl ?_
        refine FF.x_if1 ?_
        refine FF.x_cmp ?_
        refine FF.x_var (by rfl) ?_
        refine FF.x_bin ?_
        refine FF.x_const ?_
        refine FF.x_const ?_
        refine FF.OkO.of rfl ?_
        refine FF.OkO.of rfl ?_
        refine FF.OkO.of rfl ?_
        try dsimp only [List.set_cons_zero, List.set_cons_succ]
        refine ⟨fun c => ?_, fun c => ?_⟩
        · refine FF.x_var (by rfl) ?_
          try dsimp only [List.set_cons_zero, List.set_cons_succ]
          exact ⟨ds ++ [z], by rw [List.map_append]; rfl, by rw [List.length_append]; simp; omega, rfl⟩
        · try dsimp only [List.set_cons_zero, List.set_cons_succ]
          exact ⟨ds, rfl, by omega, rfl⟩
      · rintro acc h ⟨ds, rfl, hd, rfl⟩
        rw [Nat.zero_add, List.length_map] at hd
        refine ⟨rfl, ?_⟩
        try dsimp only [List.set_cons_zero, List.set_cons_succ]
        refine o_new (by rw [List.length_map]; omega) ?_
        refine FF.OkO.of rfl ?_
        refine FF.nxt_nx ?_
        try dsimp only [List.set_cons_zero, List.set_cons_succ]
        refine FF.x_cons ?_
        refine FF.x_ret ?_
        refine FF.x_dct ?_
        refine FF.x_acons ?_
        refine FF.x_const ?_
        refine FF.x_acons ?_
        refine FF.x_var (by rfl) ?_
        refine FF.x_acons ?_
        refine FF.x_const ?_
        refine FF.x_acons ?_
        refine FF.x_bin ?_
        refine FF.x_var (by rfl) ?_
        refine FF.x_lst ?_
        refine FF.x_acons ?_
        refine FF.x_bin ?_
        refine FF.x_bin ?_
        refine FF.x_const ?_
        refine FF.x_bi ?_
        refine FF.x_acons ?_
        refine FF.x_var (by rfl) ?_
        refine FF.x_anil ?_
        refine FF.OkO.of rfl ?_
        refine FF.OkO.of rfl ?_
        refine FF.x_const ?_
        refine FF.OkO.of rfl ?_
        refine FF.x_anil ?_
        refine FF.OkO.of rfl ?_
        try dsimp only [List.set_cons_zero, List.set_cons_succ]
        refine o_addL (by rw [List.length_map]; simp; omega) ?_
        refine FF.x_acons ?_
        refine FF.x_const ?_
        refine FF.x_acons ?_
        refine FF.x_var (by rfl) ?_
        refine FF.x_acons ?_
        refine FF.x_const ?_
        refine FF.x_acons ?_
        refine FF.x_const ?_
        refine FF.x_anil ?_
        refine FF.OkO.of rfl ?_
        refine FF.nxt_rt ?_
        try dsimp only [List.set_cons_zero, List.set_cons_succ]
        refine FF.end_rt ?_
        try dsimp only [List.set_cons_zero, List.set_cons_succ]
        refine ⟨rfl, ⟨ds, cs ++ [2 * (cs.length : Int) + 1], st, 0⟩, ?_, ⟨by simp, by simp; omega, by simp; omega, s0, s1⟩⟩
        unfold Reel.h
        rw [List.map_append, List.length_map]
        rfl
def ReelOk (f : List D → Hq → R (D × Hq)) : Prop := ∀ ns : List Int, ns.length ≤ 63 → Wp (f [.scr ns] []) fun p => p.1 = .ref 1 ∧ ∃ r, p.2 = Reel.h r [] ∧ r.Ok
theorem reelOk {φ : Fn} : ReelOk (runDef φ R_reel) := fun _ hl => reel_ok hl
end FF

/-! FFLay: rows laid, by the package's defs and the laws' own. -/
namespace FF
open PySem PySem.Spec L2
/-! ### what the defs reckon -/
def upI (n s : Int) : Int := n + (0 - n) % s
def kindAt (b : List (Int × Int)) (z : Int) : Int × Int := b.getD z.toNat (1, 1)
def lastE (b : List (Int × Int)) : List Int → Int → Int
  | [], at' => at'
  | z :: r, at' => lastE b r (upI at' (kindAt b z).2 + (kindAt b z).1)
def stepI (b : List (Int × Int)) (ns : List Int) : Int := (ns.map fun z => (kindAt b z).2).foldl max 1
structure BookOk (b : List (Int × Int)) : Prop where
  len : b.length ≤ 1000
  kinds : ∀ k ∈ b, Kind k
structure RowOk (b : List (Int × Int)) (ns : List Int) : Prop where
  l0 : 0 < ns.length
  l1 : ns.length ≤ 100
  ins : ∀ z ∈ ns, 0 ≤ z ∧ z < b.length
def rowD (ns : List Int) : D := .tup (ns.map .int)
/-- a def without cells -/
theorem onExc_wp {h : Hq} {r : R (D × Hq)} {P : D × Hq → Prop} (w : Wp r P) : Wp (onExc h r) P := by
  obtain ⟨a, e, q⟩ := w
  exact ⟨a, by rw [e]; rfl, q⟩
theorem pure_def {φ : Fn} {d : Def} {args : List D} {h : Hq} {v : D} (hm : d.mode = .pure) (hn : args.length = d.nps) (ha : D.pures args = true) (hv : v.pure = true)
    (body : Wp (exB φ d.body (args.map some ++ List.replicate (d.names.length - d.nps) none) []) fun f => Wp (endOf f) fun p => thaw1 0 p.2 p.1 = some v) : Wp (runDef φ d args h) fun p => p = (v, h) := by
  unfold runDef
  rw [if_neg (by rw [hn]; simp), hm]
  show Wp (if D.pures args = true then onExc h (((exB φ d.body (args.map some ++ List.replicate (d.names.length - d.nps) none) []).bind endOf).bind (fun p => match thaw1 0 p.2 p.1 with | some y => .ok (y, h) | none => .stuck)) else .stuck) _
  rw [if_pos ha]
  refine onExc_wp ?_
  refine .bind (.bind (body.mono fun f w => w.mono fun p e => ?_))
  rw [e]
  exact .ok rfl
def whole (b : List (Int × Int)) (ns : List Int) : Int := upI (lastE b ns 0) (stepI b ns)
/-! ### how great all this can be -/
theorem o_repr {d : D} {h : Hq} {P : D × Hq → Prop} (g : d.Good 40) (hb : d.bulk ≤ 300000) (hd : d.deepn ≤ 64) (p : P (.str d.shown, h)) : OkO (biD .repr false [d] h) P :=
  ⟨_, repr_good h g (by decide) (by decide) (by omega) hd (by decide), p⟩
theorem beqS (x : Str) : (x == x) = true := by simp

end FF

/-! FFRooms: rooms, lacks, powers, units, by the package's defs and the laws' own. -/
namespace FF
open PySem PySem.Spec L2
/-! ### powers of 2 -/
def p2 (n : Nat) : Nat := if 0 < n ∧ n % 2 = 0 then 2 * p2 (n / 2) else 1
termination_by n
decreasing_by omega
def powI (n : Int) : Int := (p2 n.toNat : Int)
/-! ### rooms -/
def roomI (k : Int × Int) : Int := upI k.1 k.2
def lackI (k : Int × Int) : Int := roomI k - k.1
/-! ### the places with fields -/
theorem enumL_map {α : Type} (f : α → D) (as : List α) : enumL (as.map f) = as.zipIdx.map fun p => D.tup [.int (p.2 : Nat), f p.1] := by
  unfold enumL
  rw [List.zipIdx_map, List.map_map]
  rfl
structure RecOk (b : List (Int × Int)) (ms : List Int) : Prop where
  len : ms.length = b.length
  some' : ∃ m ∈ ms, 0 < m
  nat : ∀ m ∈ ms, 0 ≤ m ∧ m ≤ T30
/-! ### the laws' own -/
/-! ### lists in cells, behind a reel -/
mutual
theorem D.beq_self : ∀ d : D, D.beq d d = true
  | .non => by unfold D.beq; rfl
  | .bl _ => by unfold D.beq; simp
  | .int _ => by unfold D.beq; simp
  | .str _ => by unfold D.beq; simp
  | .tup ds => by unfold D.beq; exact D.beqs_self ds
  | .lst ds => by unfold D.beq; exact D.beqs_self ds
  | .scr _ => by unfold D.beq; simp
  | .ktp _ => by unfold D.beq; simp
  | .kpp _ => by unfold D.beq; simp
  | .ref _ => by unfold D.beq; simp
  | .dct ds => by unfold D.beq; exact D.beqs_self ds
  | .exn _ ds => by unfold D.beq; simp [D.beqs_self ds]
  | .opq _ => by unfold D.beq; simp
theorem D.beqs_self : ∀ ds : List D, D.beqs ds ds = true
  | [] => by unfold D.beqs; rfl
  | d :: ds => by unfold D.beqs; rw [D.beq_self d, D.beqs_self ds]; rfl
end
theorem stands_one {h : Hq} {n : Nat} {ds : List D} (e : h[n]? = some (.lst ds)) : stands h [(n, ds)] = true := by
  simp [stands, e, D.beqs_self]
theorem o_itR {r : Reel} {rest : Hq} {ds : List D} {PI : Its' → Prop} (p : PI (ds, [(rest.length + 2, ds)], Reel.h r (rest ++ [.lst ds]))) : OkO (itD (.ref (rest.length + 2)) (Reel.h r (rest ++ [.lst ds]))) PI := by
  refine ⟨_, ?_, p⟩
  simp only [itD, reel_at]
/-! ### a record -/
theorem e30 : (10 : Int) ^ Int.toNat 30 = T30 := by decide
abbrev RecIn (b : List (Int × Int)) : D → Prop := fun x => ∃ ms : List Int, x = rowD ms ∧ RecOk b ms
end FF

/-! FFMono: more is never less. -/
namespace FF
open PySem PySem.Spec L2
/-- sizes no less, alignments multiples -/
structure LeK (k k' : Int × Int) : Prop where
  s : k.1 ≤ k'.1
  a : k.2 ∣ k'.2
end FF

/-! FFSum: wholes of rooms, numbers of fields, things mixed. -/
namespace FF
open PySem PySem.Spec L2
def R_mixed : Def := ⟨.trim, 2, ["reel", "things", "left", "found"], (.cons (.set (.tup (.cons (.name 2) (.cons (.name 3) .nil))) (.tup (.cons (.bi .list true (.cons (.var 1) .nil)) (.cons (.lst true .nil) .nil)))) (.cons (.while (.cmp .NotEq (.var 2) (.lst false .nil)) (.cons (.expr (.me .append (.var 3) (.cons (.me .popAt (.var 2) (.cons (.call 2 (.cons (.var 0) (.cons (.bi .len false (.cons (.var 2) .nil)) .nil))) .nil)) .nil))) .nil)) (.cons (.ret (.var 3)) .nil)))⟩
/-! ### numbers of fields -/
def cnt (row : List Int) (j : Nat) : Int := ((row.filterMap fun z => if z = (j : Int) then some (1 : Int) else none).length : Nat)
/-! ### things mixed -/
theorem o_listN {ds : List D} {h : Hq} {P : D × Hq → Prop} (hl : ds.length ≤ 16777216) (p : P (.ref h.length, h ++ [.lst ds])) : OkO (biD .list true [.lst ds] h) P := ⟨_, by simp [biD, un1, listD, FF.lstOf, itemsOf, mkL, lineOk, hl], p⟩
theorem o_lenAt {n : Nat} {ds : List D} {h : Hq} {P : D × Hq → Prop} (hn : h[n]? = some (.lst ds)) (p : P (.int ds.length, h)) : OkO (biD .len false [.ref n] h) P := ⟨_, by simp [biD, un1, lenD, hn], p⟩
theorem o_popAt {n : Nat} {ds : List D} {i : Int} {j : Nat} {d : D} {h : Hq} {P : D × Hq → Prop} (hn : h[n]? = some (.lst ds)) (hl : ds.length ≤ 16777216) (hi : L2.ixN ds.length i = some j) (hd : ds[j]? = some d) (p : P (d, h.set n (.lst (ds.eraseIdx j)))) : OkO (meD .lst .popAt (.ref n) [.int i] h) P :=
  ⟨_, by simp [meD, popAtD, hn, hi, hd, hl, hset], p⟩
/-- a def that draws and tells a list of its own -/
theorem draws_trimR {φ : Fn} {d : Def} {args : List D} {good : D → Prop} (hm : d.mode = .trim) (hn : args.length = d.nps)
    (body : ∀ (r : Reel) (rest : Hq), r.Ok → rest.all (Ob.under (rest.length + 2)) = true → Wp (exB φ d.body (args.map some ++ List.replicate (d.names.length - d.nps) none) (r.h rest)) fun f => Wp (endOf f) fun p => ∃ r' own n ds, p = (.ref n, Reel.h r' (rest ++ own)) ∧ r'.Ok ∧ rest.length + 2 ≤ n ∧ (Reel.h r' (rest ++ own))[n]? = some (.lst ds) ∧ D.pures ds = true ∧ good (.lst ds)) : Draws (runDef φ d) args good := by
  intro r rest ok u
  unfold runDef
  rw [if_neg (by rw [hn]; simp), hm]
  refine .bind (.bind ((body r rest ok u).mono fun f w => w.mono ?_))
  rintro _ ⟨r', own, n, ds, rfl, ok', hn2, hat, px, g⟩
  have hl : (r.h rest).length = rest.length + 2 := rfl
  have ht : (Reel.h r' (rest ++ own)).take (r.h rest).length = Reel.h r' rest := by
    rw [hl]
    show _ :: _ :: List.take rest.length (rest ++ own) = _
    rw [List.take_left']
    · rfl
    · rfl
  have th : thaw1 (r.h rest).length (Reel.h r' (rest ++ own)) (.ref n) = some (.lst ds) := by
    rw [hl]
    unfold thaw1 thawN
    have e : D.thaws (rest.length + 2) (thawN (rest.length + 2) (Reel.h r' (rest ++ own)) 2) (Reel.h r' (rest ++ own)) [.ref n] = some [.lst ds] := by
      unfold D.thaws D.thaw
      rw [if_neg (by omega), hat]
      simp [thawN, thaws_pure ds px, D.thaws]
    rw [e]
  dsimp only
  rw [th]
  dsimp only
  rw [ht, if_pos (by rw [hl]; exact reel_under u)]
  exact .ok ⟨r', rfl, ok', g⟩
theorem reel_a {r : Reel} {rest : Hq} {a b : Ob} : (Reel.h r (rest ++ [a, b]))[rest.length + 2]? = some a := by
  unfold Reel.h; simp
theorem reel_b {r : Reel} {rest : Hq} {a b : Ob} : (Reel.h r (rest ++ [a, b]))[rest.length + 3]? = some b := by
  unfold Reel.h
  show (rest ++ [a, b])[rest.length + 1]? = some b
  simp
theorem reel_sa {r : Reel} {rest : Hq} {a b c : Ob} : (Reel.h r (rest ++ [a, b])).set (rest.length + 2) c = Reel.h r (rest ++ [c, b]) := by
  unfold Reel.h; simp
theorem reel_sb {r : Reel} {rest : Hq} {a b c : Ob} : (Reel.h r (rest ++ [a, b])).set (rest.length + 3) c = Reel.h r (rest ++ [a, c]) := by
  unfold Reel.h
  show _ :: _ :: (rest ++ [a, b]).set (rest.length + 1) c = _
  simp
theorem rest_app2 {rest : Hq} {xs ys : List D} (u : rest.all (Ob.under (rest.length + 2)) = true) (p : D.pures xs = true) (q : D.pures ys = true) : (rest ++ [Ob.lst xs, Ob.lst ys]).all (Ob.under ((rest ++ [Ob.lst xs, Ob.lst ys]).length + 2)) = true := by
  have := rest_app (rest_app u p) q
  rw [List.append_assoc] at this
  exact this
abbrev ListPerm (ns : List Int) : D → Prop := fun x => ∃ ms : List Int, x = .lst (ms.map .int) ∧ ms.Perm ns
theorem map_erase {α β : Type} (f : α → β) : ∀ (l : List α) (j : Nat), (l.map f).eraseIdx j = (l.eraseIdx j).map f
  | [], _ => rfl
  | a :: l, 0 => rfl
  | a :: l, j + 1 => by rw [List.map_cons, List.eraseIdx_cons_succ, List.eraseIdx_cons_succ, List.map_cons, map_erase f l j]
theorem perm_erase {α : Type} : ∀ (l : List α) (j : Nat) (h : j < l.length), (l[j] :: l.eraseIdx j).Perm l
  | [], j, h => by simp at h
  | a :: l, 0, h => List.Perm.refl _
  | a :: l, j + 1, h => by
    rw [List.eraseIdx_cons_succ, List.getElem_cons_succ]
    exact List.Perm.trans (List.Perm.swap a _ _) (List.Perm.cons a (perm_erase l j (by simpa using h)))
theorem mixed_ok {φ : Fn} (hd : DrawOk (φ 2)) {ns : List Int} (nl : ns.length ≤ 1000) : Draws (runDef φ R_mixed) [.ref 1, .lst (ns.map .int)] (ListPerm ns) := by
  refine draws_trimR rfl rfl fun r rest ok u => ?_
  refine FF.x_cons ?_
  refine FF.x_set ?_
  refine FF.x_tup ?_
  refine FF.x_acons ?_
  refine FF.x_bi ?_
  refine FF.x_acons ?_
  refine FF.x_var (by rfl) ?_
  refine FF.x_anil ?_
  try dsimp only [List.set_cons_zero, List.set_cons_succ]
  refine o_listN (by rw [List.length_map]; omega) ?_
  refine FF.x_acons ?_
  refine FF.x_lst ?_
  refine FF.x_anil ?_
  refine FF.OkO.of rfl ?_
  refine FF.x_anil ?_
  refine FF.OkO.of rfl ?_
  refine FF.OkO.of rfl ?_
  refine FF.nxt_nx ?_
  try dsimp only [List.set_cons_zero, List.set_cons_succ]
  refine FF.x_cons ?_
  refine FF.x_while ?_
  try dsimp only [List.set_cons_zero, List.set_cons_succ]
  rw [show ((Reel.h r rest) ++ [Ob.lst (ns.map D.int)]).length = rest.length + 3 by simp [Reel.h]]
  refine wp_loopW (fun s h m => ∃ (left found : List Int) (r : Reel), s = [some (.ref 1), some (.lst (ns.map .int)), some (.ref (rest.length + 2)), some (.ref (rest.length + 3))] ∧ h = Reel.h r (rest ++ [.lst (left.map .int), .lst (found.map .int)]) ∧ r.Ok ∧ left.length = m ∧ (found ++ left).Perm ns) ?_ fuel ns.length _ _ (Nat.lt_of_le_of_lt nl (by decide)) ⟨ns, [], r, by rfl, ?_, ok, rfl, by rw [List.nil_append]⟩
  rotate_left
  · unfold Reel.h
    simp
  rintro s h m ⟨left, found, r, rfl, rfl, ok, hm, pm⟩
  have ln := pm.length_eq
  rw [List.length_append] at ln
  refine FF.x_testOf ?_
  refine FF.x_cmp ?_
  refine FF.x_var (by rfl) ?_
  refine FF.x_lst ?_
  refine FF.x_anil ?_
  refine FF.OkO.of rfl ?_
  try dsimp only [List.set_cons_zero, List.set_cons_succ]
  refine o_ne (eq_nil reel_a) ?_
  refine FF.OkO.of rfl ?_
  try dsimp only [List.set_cons_zero, List.set_cons_succ]
  cases left with
  | nil =>
    refine .inl ⟨rfl, ?_⟩
    refine FF.nxt_nx ?_
    try dsimp only [List.set_cons_zero, List.set_cons_succ]
    refine FF.x_cons ?_
    refine FF.x_ret ?_
    refine FF.x_var (by rfl) ?_
    refine FF.nxt_rt ?_
    try dsimp only [List.set_cons_zero, List.set_cons_succ]
    refine FF.end_rt ?_
    try dsimp only [List.set_cons_zero, List.set_cons_succ]
    refine ⟨r, _, _, _, rfl, ok, by omega, reel_b, pures_map _ fun _ _ => rfl, found, rfl, ?_⟩
    rw [List.append_nil] at pm
    exact pm
  | cons a left =>
    refine .inr ⟨rfl, ?_⟩
    have u' := rest_app2 u (pures_map (f := D.int) (a :: left) fun _ _ => rfl) (pures_map (f := D.int) found fun _ _ => rfl)
    rw [List.length_cons] at hm ln
    refine FF.x_cons ?_
    refine FF.x_expr ?_
    refine FF.x_me ?_
    refine FF.x_var (by rfl) ?_
    try dsimp only [List.set_cons_zero, List.set_cons_succ]
    refine o_kind reel_b rfl ?_
    refine FF.x_acons ?_
    refine FF.x_me ?_
    refine FF.x_var (by rfl) ?_
    try dsimp only [List.set_cons_zero, List.set_cons_succ]
    refine o_kind reel_a rfl ?_
    refine FF.x_acons ?_
    refine FF.x_call ?_
    refine FF.x_acons ?_
    refine FF.x_var (by rfl) ?_
    refine FF.x_acons ?_
    refine FF.x_bi ?_
    refine FF.x_acons ?_
    refine FF.x_var (by rfl) ?_
    refine FF.x_anil ?_
    try dsimp only [List.set_cons_zero, List.set_cons_succ]
    refine o_lenAt reel_a ?_
    refine FF.x_anil ?_
    try dsimp only [List.set_cons_zero, List.set_cons_succ]
    refine (draw_int hd (many := (((a :: left).map D.int).length : Nat)) (by simp) (log_small (by simp) (by rw [List.length_map, List.length_cons]; omega)) _ _ ok u').mono ?_
    rintro ⟨_, _⟩ ⟨_, ee, ok, j, ee2, j0, j1⟩
    dsimp only at ee ee2
    subst ee; subst ee2
    rw [List.length_map, List.length_cons] at j1
    obtain ⟨j, rfl⟩ := Int.eq_ofNat_of_zero_le j0
    have hj : j < (a :: left).length := by rw [List.length_cons]; omega
    refine FF.x_anil ?_
    try dsimp only [List.set_cons_zero, List.set_cons_succ]
    refine o_popAt reel_a (by rw [List.length_map, List.length_cons]; omega) (by rw [List.length_map]; exact ixN_at hj) (d := .int (a :: left)[j]) (by rw [List.getElem?_map, List.getElem?_eq_getElem hj]; rfl) ?_
    rw [reel_sa]
    refine FF.x_anil ?_
    try dsimp only [List.set_cons_zero, List.set_cons_succ]
    refine o_app reel_b (by rw [List.length_map]; omega) ?_
    rw [reel_sb]
    refine FF.nxt_nx ?_
    try dsimp only [List.set_cons_zero, List.set_cons_succ]
    refine FF.x_nil ?_
    try dsimp only [List.set_cons_zero, List.set_cons_succ]
    refine ⟨left.length, by omega, (a :: left).eraseIdx j, found ++ [(a :: left)[j]], _, rfl, ?_, ok, ?_, ?_⟩
    · rw [List.map_append, map_erase]; rfl
    · rw [List.length_eraseIdx, if_pos hj, List.length_cons]; rfl
    · rw [List.append_assoc]
      refine List.Perm.trans (List.Perm.append_left found ?_) pm
      exact perm_erase _ j hj
end FF

/-! FFFam: what draws, of any family of draws. -/
namespace FF
open PySem PySem.Spec L2
/-! ### trees without texts -/
mutual
def D.plainT : D → Bool
  | .non => true
  | .bl _ => true
  | .int _ => true
  | .tup ds => D.plainTs ds
  | .lst ds => D.plainTs ds
  | .ktp _ => true
  | _ => false
def D.plainTs : List D → Bool
  | [] => true
  | d :: ds => D.plainT d && D.plainTs ds
end
theorem lay_ints : ∀ ns : List Int, PyData.canLayAll0 (ns.map .int) = true ∧ PyData.depthAll (ns.map .int) = 0
  | [] => ⟨rfl, rfl⟩
  | n :: ns => by
    obtain ⟨a, b⟩ := lay_ints ns
    refine ⟨?_, ?_⟩
    · rw [List.map_cons, PyData.canLayAll0, PyData.canLay0, a]; rfl
    · rw [List.map_cons, PyData.depthAll, PyData.depth, b]; rfl
mutual
theorem plain_py : ∀ d : D, d.plainT = true → ∃ p, D.py d = some p ∧ p.canLay0 = true ∧ p.depth = d.deepn
  | .non, _ => ⟨.none, by unfold D.py; rfl, rfl, rfl⟩
  | .bl b, _ => ⟨.bool b, by unfold D.py; rfl, rfl, rfl⟩
  | .int i, _ => ⟨.int i, by unfold D.py; rfl, rfl, rfl⟩
  | .tup ds, q => by
    unfold D.plainT at q
    obtain ⟨ps, e, c, d⟩ := plains_py ds q
    exact ⟨.tuple ps, by unfold D.py; rw [e]; rfl, c, by unfold PyData.depth D.deepn; rw [d]⟩
  | .lst ds, q => by
    unfold D.plainT at q
    obtain ⟨ps, e, c, d⟩ := plains_py ds q
    exact ⟨.list ps, by unfold D.py; rw [e]; rfl, c, by unfold PyData.depth D.deepn; rw [d]⟩
  | .str _, q => by unfold D.plainT at q; cases q
  | .scr _, q => by unfold D.plainT at q; cases q
  | .ktp ns, _ => ⟨.tuple (ns.map .int), by unfold D.py; rfl, (lay_ints ns).1, by unfold PyData.depth D.deepn; rw [(lay_ints ns).2]⟩
  | .kpp _, q => by unfold D.plainT at q; cases q
  | .ref _, q => by unfold D.plainT at q; cases q
  | .dct _, q => by unfold D.plainT at q; cases q
  | .exn _ _, q => by unfold D.plainT at q; cases q
  | .opq _, q => by unfold D.plainT at q; cases q
theorem plains_py : ∀ ds : List D, D.plainTs ds = true → ∃ ps, D.pys ds = some ps ∧ PyData.canLayAll0 ps = true ∧ PyData.depthAll ps = D.deepns ds
  | [], _ => ⟨[], by unfold D.pys; rfl, rfl, rfl⟩
  | d :: ds, q => by
    unfold D.plainTs at q
    rw [Bool.and_eq_true] at q
    obtain ⟨p, e1, c1, d1⟩ := plain_py d q.1
    obtain ⟨ps, e2, c2, d2⟩ := plains_py ds q.2
    refine ⟨p :: ps, by unfold D.pys; rw [e1, e2], ?_, ?_⟩
    · unfold PyData.canLayAll0; rw [c1, c2]; rfl
    · unfold PyData.depthAll D.deepns; rw [d1, d2]
end
mutual
theorem plain_melt {g : List D → Option (List D)} {h : Hq} : ∀ d : D, d.plainT = true → D.melt g h d = some d
  | .non, _ => by unfold D.melt; rfl
  | .bl _, _ => by unfold D.melt; rfl
  | .int _, _ => by unfold D.melt; rfl
  | .tup ds, q => by unfold D.plainT at q; unfold D.melt; rw [plains_melt ds q]; rfl
  | .lst ds, q => by unfold D.plainT at q; unfold D.melt; rw [plains_melt ds q]; rfl
  | .str _, q => by unfold D.plainT at q; cases q
  | .scr _, q => by unfold D.plainT at q; cases q
  | .ktp _, _ => by unfold D.melt; rfl
  | .kpp _, q => by unfold D.plainT at q; cases q
  | .ref _, q => by unfold D.plainT at q; cases q
  | .dct _, q => by unfold D.plainT at q; cases q
  | .exn _ _, q => by unfold D.plainT at q; cases q
  | .opq _, q => by unfold D.plainT at q; cases q
theorem plains_melt {g : List D → Option (List D)} {h : Hq} : ∀ ds : List D, D.plainTs ds = true → D.melts g h ds = some ds
  | [], _ => by unfold D.melts; rfl
  | d :: ds, q => by
    unfold D.plainTs at q
    rw [Bool.and_eq_true] at q
    unfold D.melts
    rw [plain_melt d q.1, plains_melt ds q.2]
end
/-! ### a family of draws -/
structure Fam where
  S : Type
  ok : S → Prop
  base : S → Hq
  n : Nat
  root : Nat
  len : ∀ s, (base s).length = n
  und : ∀ s, ok s → (base s).all (Ob.under n) = true
def Fam.h (F : Fam) (s : F.S) (rest : Hq) : Hq := F.base s ++ rest
section
variable {F : Fam} {s : F.S} {rest : Hq}
end
section
variable {F : Fam} {s : F.S} {rest : Hq} {P : D × Hq → Prop} {ds : List D}
end
/-! ### one of some things, things mixed -/
/-! ### a search -/
theorem wp_find {α β : Type} {w : Watch} {step : D → Env' → Hq → R Fl} {Q : Fl → Prop} {h : Hq} (f : α → D) (g : α → Option β) (val : β → D) (Inv : Env' → Prop) (hw : stands h w = true) : ∀ (as : List α) (s : Env'), Inv s →
    (∀ a ∈ as, ∀ s, Inv s → Wp (step (f a) s h) fun r => (∃ v, g a = some v ∧ r = .rt (val v) h) ∨ (g a = none ∧ ∃ s', r = .nx s' h ∧ Inv s')) →
    (∀ v, as.findSome? g = some v → Q (.rt (val v) h)) → (as.findSome? g = none → ∀ s', Inv s' → Q (.nx s' h)) → Wp (loopF w step (as.map f) s h) Q
  | [], s, i, _, _, q2 => by
    rw [List.map_nil]
    unfold loopF
    rw [if_pos hw]
    exact .ok (q2 rfl s i)
  | a :: as, s, i, st, q1, q2 => by
    rw [List.map_cons]
    unfold loopF
    rw [if_pos hw]
    refine .bind ((st a List.mem_cons_self s i).mono ?_)
    rintro _ (⟨v, e, rfl⟩ | ⟨e, s', rfl, i'⟩)
    · exact .ok (q1 v (by rw [List.findSome?_cons, e]))
    · exact wp_find f g val Inv hw as s' i' (fun a m => st a (List.mem_cons_of_mem _ m)) (fun v q => q1 v (by rw [List.findSome?_cons, e]; exact q)) fun q => q2 (by rw [List.findSome?_cons, e]; exact q)
end FF

/-! FFDue: how wholes of rooms go with wholes of rows. -/
namespace FF
open PySem PySem.Spec L2
/-! ### goods of any size -/
/-! ### how great -/
/-! ### records beside one another -/
/-! ### rows by falling alignments -/
def alI (b : List (Int × Int)) (z : Int) : Int := (kindAt b z).2
structure Falls (b : List (Int × Int)) (row T F : List Int) : Prop where
  sum : ∀ f : Int → Int, (F.map f).sum = (row.map fun z => if alI b z ∈ T then f z else 0).sum
  mem : ∀ z, z ∈ F ↔ z ∈ row ∧ alI b z ∈ T
  desc : F.Pairwise fun x y => alI b y ≤ alI b x
theorem al_in {b : List (Int × Int)} {z : Int} (hk : Kind (kindAt b z)) : alI b z ∈ [64, 32, 16, 8, 4, 2, (1 : Int)] := by
  have := hk.ap
  unfold Pow2 at this
  unfold alI
  simp only [List.mem_cons, List.not_mem_nil, or_false]
  omega
end FF

/-! FFDeck: the decks of the laws of level books. -/
namespace FF
open PySem PySem.Spec L2
structure DeckS where
  deep : List Int
  st : Int
  cnt : Int
end FF

/-! FFPool: the pools of the laws of floors and least wholes. -/
namespace FF
open PySem PySem.Spec L2
/-! ### kinds, books, records -/
abbrev IntsIn (ok : Int → Prop) : D → Prop := fun x => ∃ ns : List Int, x = .lst (ns.map .int) ∧ ns ≠ [] ∧ ns.length ≤ 100 ∧ ∀ n ∈ ns, ok n
abbrev RecsIn (many : Nat) : D → Prop := fun x => ∃ ms : List Int, x = rowD ms ∧ ms.length = many ∧ (∃ m ∈ ms, 0 < m) ∧ ∀ m ∈ ms, 0 ≤ m ∧ m ≤ T30
end FF

/-! FFFloor: floors and shares, by the package's defs and the laws' own. -/
namespace FF
open PySem PySem.Spec L2
theorem o_mulT {live : Bool} {h : Hq} {P : D × Hq → Prop} {i : List D} {k : Int} (h0 : i ≠ []) (h1 : -1000 ≤ k) (h2 : k ≤ 1000) (h3 : i.length ≤ 1000) (p : P (.tup (List.replicate k.toNat i).flatten, h)) : OkO (binop .Mult live (.tup i) (.int k) h) P :=
  ⟨_, by simp [binop, mulD, h0, h1, h2, h3], p⟩
def pw (k : Int × Int) : Int := powI (roomI k)
/-! ### the floor -/
/-! ### shares -/
end FF

/-! FFNeed: fields that are needed. -/
namespace FF
open PySem PySem.Spec L2
/-! ### the first number that goes -/
def goesN (r g a : Int) (n : Nat) : Bool := ((n : Int) * r - g) % a == 0
def first (r g a : Int) : Nat := ((List.range 64).find? (goesN r g a)).getD 64
/-- how many of a fine kind stand behind each field of a kind -/
def behind (b : List (Int × Int)) (L z f : Int) : Nat := first (roomI (kindAt b f)) (L * (lackI (kindAt b z) / L)) (alI b z)
structure FineOk (b : List (Int × Int)) (L z f : Int) : Prop where
  hz : 0 ≤ z ∧ z < b.length
  hf : 0 ≤ f ∧ f < b.length
  pow : pw (kindAt b f) = L
  l1 : 1 ≤ L
  l2 : L ≤ 2000000000000000000000000000000
/-! ### sums over the fields -/
end FF

/-! FFEven: level books of a pool, their floors. -/
namespace FF
open PySem PySem.Spec L2
/-- M: a power of 2 -/
def PowM (M : Int) : Prop := ∃ k : Nat, M = ((2 ^ k : Nat) : Int)
structure LevelBy (M : Int) (b : List (Int × Int)) : Prop where
  pow : PowM M
  room : ∀ k ∈ b, M ∣ roomI k
  lack : ∀ k ∈ b, lackI k < M
/-! ### kinds in another order -/
structure Turned (b : List (Int × Int)) (ms : List Int) (zs : List Int) : Prop where
  perm : zs.Perm ((List.range b.length).map fun j : Nat => (j : Int))
/-! ### drawn -/
end FF

/-! FFTank: the pools with names, their books. -/
namespace FF
open PySem PySem.Spec L2
end FF

/-! FFTank2: the books of the pools with names. -/
namespace FF
open PySem PySem.Spec L2
end FF

/-! FFTank3: uneven books, books rounded up. -/
namespace FF
open PySem PySem.Spec L2
def R_isint : Def := ⟨.pure, 1, ["value"], (.cons (.ret (.andV (.bi .isint false (.cons (.var 0) .nil)) (.notV (.bi .isbool false (.cons (.var 0) .nil))))) .nil)⟩
def R_iswithin : Def := ⟨.pure, 3, ["value", "least", "most"], (.cons (.ret (.andV (.call 84 (.cons (.var 0) .nil)) (.cmp2 .LtE .LtE (.var 1) (.var 0) (.var 2)))) .nil)⟩
def R_istuple : Def := ⟨.pure, 2, ["value", "most"], (.cons (.ret (.andV (.bi .istup false (.cons (.var 0) .nil)) (.cmp2 .LtE .LtE (.const (.int 1)) (.bi .len false (.cons (.var 0) .nil)) (.var 1)))) .nil)⟩
def R_issize : Def := ⟨.pure, 1, ["value"], (.cons (.ret (.call 85 (.cons (.var 0) (.cons (.const (.int 1)) (.cons (.glob "MAX_SIZE" (.int 1000000000000000000000000000000)) .nil))))) .nil)⟩
def R_isal : Def := ⟨.pure, 1, ["value"], (.cons (.ret (.andV (.call 84 (.cons (.var 0) .nil)) (.cmp .In (.var 0) (.glob "ALIGNMENTS" (.ktp [1, 2, 4, 8, 16, 32, 64]))))) .nil)⟩
def R_iskind : Def := ⟨.pure, 1, ["value"], (.cons (.ret (.andV (.bi .istup false (.cons (.var 0) .nil)) (.andV (.cmp .Eq (.bi .len false (.cons (.var 0) .nil)) (.const (.int 2))) (.andV (.call 86 (.cons (.ix (.var 0) (.const (.int 0))) .nil)) (.call 87 (.cons (.ix (.var 0) (.const (.int 1))) .nil)))))) .nil)⟩
def R_bookerr : Def := ⟨.pure, 1, ["value", "place", "kind"], (.cons (.ite (.notV (.call 83 (.cons (.var 0) (.cons (.glob "MAX_KINDS" (.int 6)) .nil)))) (.cons (.ret (.const (.str "form"))) .nil) .nil) (.cons (.for (.tup (.cons (.name 1) (.cons (.name 2) .nil))) (.enum (.ex (.var 0))) (.cons (.ite (.notV (.call 88 (.cons (.var 2) .nil))) (.cons (.ret (.tup (.cons (.const (.str "kind")) (.cons (.var 1) .nil)))) .nil) .nil) .nil)) (.cons (.ret (.const .non)) .nil)))⟩
/-! ### what is at hand -/
theorem cut_map {α β : Type} (f : α → β) (xs : List α) (lo hi : Option Int) : cut (xs.map f) lo hi = (cut xs lo hi).map f := by
  unfold cut
  rw [List.length_map, List.map_take, List.map_drop]
theorem cut_sub {α : Type} {xs : List α} {lo hi : Option Int} {x : α} (h : x ∈ cut xs lo hi) : x ∈ xs := List.mem_of_mem_drop (List.mem_of_mem_take h)
theorem cut_len {α : Type} (xs : List α) (lo hi : Option Int) : (cut xs lo hi).length ≤ xs.length := by
  unfold cut
  rw [List.length_take, List.length_drop]
  omega
theorem o_addTT {a b : List D} {h : Hq} {P : D × Hq → Prop} (hl : a.length + b.length ≤ 16777216) (p : P (.tup (a ++ b), h)) : OkO (binop .Add false (.tup a) (.tup b) h) P := ⟨_, by simp [binop, addD, lineOk, hl], p⟩
theorem any_row {z : Int} (own : List Int) : (own.map D.int).any (fun d => eqFl d (.int z)) = decide (z ∈ own) := by
  rw [Bool.eq_iff_iff, List.any_eq_true, decide_eq_true_iff]
  constructor
  · rintro ⟨x, hx, q⟩
    obtain ⟨y, hy, rfl⟩ := List.mem_map.mp hx
    have : y = z := by simpa [eqFl] using q
    exact this ▸ hy
  · intro hz
    exact ⟨_, List.mem_map.mpr ⟨z, hz, rfl⟩, by simp [eqFl]⟩
/-! ### uneven books -/
abbrev BookAny : D → Prop := fun x => ∃ b : List (Int × Int), x = bookD b ∧ 0 < b.length ∧ b.length ≤ 6 ∧ ∀ k ∈ b, Kind k
/-! ### rounded up -/
theorem mem_zipIdx_at {α : Type} {l : List α} {p : α × Nat} (h : p ∈ l.zipIdx) : l[p.2]? = some p.1 := by
  obtain ⟨a, i⟩ := p
  exact List.mem_zipIdx_iff_getElem?.mp h
/-! ### what is a book -/
/-! ### the plain law of rounding -/
end FF

/-! FFLayK: rows laid, the rows plain tuples. -/
namespace FF
open PySem PySem.Spec L2
def rowK (ns : List Int) : D := .ktp ns
end FF

/-! FFCount: rows that are plain tuples: drawn, mixed, counted. -/
namespace FF
open PySem PySem.Spec L2
abbrev RowKIn (n : Nat) (many : Nat) : D → Prop := fun x => ∃ ns : List Int, x = rowK ns ∧ ns.length = many ∧ ∀ z ∈ ns, 0 ≤ z ∧ z < n
end FF

/-! FFUtil: small things about lists, slices, ends. -/
namespace FF
open PySem PySem.Spec L2
end FF

/-! FFEq: == of plain values. -/
namespace FF
open PySem PySem.Spec L2
end FF

/-! FFTexts: texts of books and records, there and back. -/
namespace FF
open PySem PySem.Spec L2 TL
/-! ### decimals -/
abbrev numS (n : Int) : Str := Str.ofString (toString n)
abbrev blank : Str := " "
abbrev stroke : Str := "/"
theorem tl_numS {n : Int} (h : 0 ≤ n) : tl (numS n) = numL n.toNat := by
  obtain ⟨k, rfl⟩ := Int.eq_ofNat_of_zero_le h
  exact tl_num k
theorem numS_len {n : Int} (h : 0 ≤ n) (h1 : n ≤ T30) : 1 ≤ (numS n).length ∧ (numS n).length ≤ 31 := by
  rw [len_tl, tl_numS h]
  refine ⟨List.length_pos_iff.mpr (numL_ne _), numL_len (by decide) ?_⟩
  have e : (10 : Nat) ^ 31 = 10000000000000000000000000000000 := by decide
  rw [e]
  unfold T30 at h1
  omega
theorem numS_digit {n : Int} (h : 0 ≤ n) {c : Nat} (hc : c ∈ tl (numS n)) : 48 ≤ c ∧ c ≤ 57 := by
  rw [tl_numS h] at hc
  exact numL_digits _ c hc
/-! ### texts of books and records -/
/-! ### operators of texts -/
theorem log_T30 {i : Int} (h0 : 0 ≤ i) (h1 : i ≤ T30) : i.natAbs.log2 < 1920 := by
  by_cases z : i.natAbs = 0
  · rw [z]; decide
  · refine (Nat.log2_lt z).mpr (Nat.lt_of_lt_of_le (show i.natAbs < 2 ^ 100 from ?_) (Nat.pow_le_pow_right (by decide) (by decide)))
    have e : (2 : Nat) ^ 100 = 1267650600228229401496703205376 := by decide
    rw [e]
    unfold T30 at h1
    omega
theorem o_strI {i : Int} {h : Hq} {P : D × Hq → Prop} (h0 : 0 ≤ i) (h1 : i ≤ T30) (p : P (.str (numS i), h)) : OkO (biD .str false [.int i] h) P := by
  refine ⟨_, ?_, p⟩
  show (if i.natAbs.log2 < 1920 then some (D.str (numS i), h) else none) = _
  rw [if_pos (log_T30 h0 h1)]
/-! ### the package's own -/
/-! ### the law's own -/
end FF

/-! FFLevel: level books, drawn and judged. -/
namespace FF
open PySem PySem.Spec L2
theorem o_listP {x : D} {ds : List D} {h : Hq} {P : D × Hq → Prop} (e : itemsOf h x = some ds) (hl : ds.length ≤ 16777216) (p : P (.lst ds, h)) : OkO (biD .list false [x] h) P := ⟨_, by simp [biD, un1, listD, e, mkL, lineOk, hl], p⟩
/-! ### the least pair -/
end FF

/-! FFVal: values of all kinds, judged; their texts. -/
namespace FF
open PySem PySem.Spec L2
/-! ### values -/
mutual
def vv : D → Bool
  | .non => true
  | .bl _ => true
  | .int _ => true
  | .str _ => true
  | .ktp _ => true
  | .tup ds => vvs ds
  | .lst ds => vvs ds
  | .dct ds => D.pures ds
  | .opq _ => true
  | _ => false
def vvs : List D → Bool
  | [] => true
  | d :: ds => vv d && vvs ds
end
theorem vvs_mem {ds : List D} (h : vvs ds = true) : ∀ d ∈ ds, vv d = true := by
  induction ds with
  | nil => intro d hd; cases hd
  | cons a ds ih =>
    intro d hd
    unfold vvs at h
    rw [Bool.and_eq_true] at h
    rcases List.mem_cons.mp hd with rfl | hd
    · exact h.1
    · exact ih h.2 d hd
theorem vvs_of {ds : List D} (h : ∀ d ∈ ds, vv d = true) : vvs ds = true := by
  induction ds with
  | nil => rfl
  | cons a ds ih =>
    unfold vvs
    rw [h a List.mem_cons_self, ih fun d hd => h d (List.mem_cons_of_mem _ hd)]
    rfl
mutual
theorem vv_pure : ∀ {d : D}, vv d = true → d.pure = true
  | .non, _ => rfl
  | .bl _, _ => rfl
  | .int _, _ => rfl
  | .str _, _ => rfl
  | .ktp _, _ => rfl
  | .opq _, _ => rfl
  | .tup ds, h => by unfold vv at h; unfold D.pure; exact vvs_pure h
  | .lst ds, h => by unfold vv at h; unfold D.pure; exact vvs_pure h
  | .dct _, h => by unfold vv at h; unfold D.pure; exact h
  | .kpp _, h => by simp [vv] at h
  | .scr _, h => by simp [vv] at h
  | .ref _, h => by simp [vv] at h
  | .exn _ _, h => by simp [vv] at h
theorem vvs_pure : ∀ {ds : List D}, vvs ds = true → D.pures ds = true
  | [], _ => rfl
  | d :: ds, h => by
    unfold vvs at h
    rw [Bool.and_eq_true] at h
    unfold D.pures
    rw [vv_pure h.1, vvs_pure h.2]; rfl
end
/-! ### their texts -/
mutual
def D.GoodR (k : Nat) : D → Prop
  | .non => True
  | .bl _ => True
  | .int i => i.natAbs < 10 ^ k
  | .str s => ∀ c ∈ s.cps.toList, c < 16 ^ 8
  | .tup ds => D.GoodsR k ds
  | .lst ds => D.GoodsR k ds
  | .ktp ns => ∀ i ∈ ns, i.natAbs < 10 ^ k
  | .dct [] => True
  | .dct [.int i, .int j] => i.natAbs < 10 ^ k ∧ j.natAbs < 10 ^ k
  | _ => False
def D.GoodsR (k : Nat) : List D → Prop
  | [] => True
  | d :: ds => D.GoodR k d ∧ D.GoodsR k ds
end
mutual
def D.bulkR : D → Nat
  | .str s => s.cps.size
  | .tup ds => D.bulksR ds
  | .lst ds => D.bulksR ds
  | .ktp ns => ns.length
  | .dct _ => 2
  | _ => 0
def D.bulksR : List D → Nat
  | [] => 0
  | d :: ds => D.bulkR d + 1 + D.bulksR ds
end
mutual
def D.deepR : D → Nat
  | .tup ds => D.deepsR ds + 1
  | .lst ds => D.deepsR ds + 1
  | .ktp _ => 1
  | .dct _ => 1
  | _ => 0
def D.deepsR : List D → Nat
  | [] => 0
  | d :: ds => max (D.deepR d) (D.deepsR ds)
end
structure PyRof (k : Nat) (d : D) (p : PyData) : Prop where
  py : D.pyR d = some p
  short : p.leavesShort (k + 1) = true
  show' : p.showable = true
  bulk : p.bulk ≤ d.bulkR
  deep : p.depth ≤ d.deepR
structure PyRsof (k : Nat) (d : List D) (p : List PyData) : Prop where
  py : D.pyRs d = some p
  short : PyData.leavesShortAll (k + 1) p = true
  show' : PyData.showableAll p = true
  bulk : PyData.bulkAll p ≤ D.bulksR d
  deep : PyData.depthAll p ≤ D.deepsR d
mutual
theorem goodR_py {k : Nat} (hk : 0 < k) (hk2 : k ≤ 500) : ∀ d : D, d.GoodR k → ∃ p, PyRof k d p
  | .non, _ => ⟨.none, by unfold D.pyR; rfl, rfl, rfl, Nat.le_refl _, Nat.le_refl _⟩
  | .bl b, _ => ⟨.bool b, by unfold D.pyR; rfl, rfl, rfl, Nat.le_refl _, Nat.le_refl _⟩
  | .int i, g => by
    unfold D.GoodR at g
    have q := int_py hk hk2 g
    exact ⟨.int i, by unfold D.pyR; rfl, q.short, q.show', Nat.le_refl _, Nat.le_refl _⟩
  | .str s, g => by
    unfold D.GoodR at g
    refine ⟨.str s, by unfold D.pyR; rfl, ?_, rfl, Nat.le_refl _, Nat.le_refl _⟩
    unfold PyData.leavesShort
    exact List.all_eq_true.mpr fun c hc => decide_eq_true (g c hc)
  | .tup ds, g => by
    unfold D.GoodR at g
    obtain ⟨ps, q⟩ := goodsR_py hk hk2 ds g
    exact ⟨.tuple ps, by unfold D.pyR; rw [q.py]; rfl, q.short, q.show', q.bulk, by unfold PyData.depth D.deepR; have := q.deep; omega⟩
  | .lst ds, g => by
    unfold D.GoodR at g
    obtain ⟨ps, q⟩ := goodsR_py hk hk2 ds g
    exact ⟨.list ps, by unfold D.pyR; rw [q.py]; rfl, q.short, q.show', q.bulk, by unfold PyData.depth D.deepR; have := q.deep; omega⟩
  | .scr _, g => g.elim
  | .ktp ns, g => by
    unfold D.GoodR at g
    obtain ⟨q1, q2, q3, q4, q5⟩ := ints_py hk hk2 ns g
    refine ⟨.tuple (ns.map .int), by unfold D.pyR; rfl, q1, q2, ?_, ?_⟩
    · show PyData.bulkAll (ns.map .int) ≤ _
      unfold D.bulkR; omega
    · show PyData.depthAll (ns.map .int) + 1 ≤ _
      unfold D.deepR; omega
  | .kpp _, g => g.elim
  | .ref _, g => g.elim
  | .dct [], _ => ⟨.dict [], by unfold D.pyR; rfl, rfl, rfl, by unfold D.bulkR PyData.bulk; decide, by unfold D.deepR; decide⟩
  | .dct [.int i, .int j], g => by
    unfold D.GoodR at g
    have q1 := int_py hk hk2 g.1
    have q2 := int_py hk hk2 g.2
    refine ⟨.dict [(.int i, .int j)], by unfold D.pyR; rfl, ?_, ?_, Nat.le_refl _, ?_⟩
    · have e1 := q1.short
      have e2 := q2.short
      simp [PyData.leavesShort, PyData.leavesShortKv] at e1 e2 ⊢
      exact ⟨e1, e2⟩
    · have e1 := q1.show'
      have e2 := q2.show'
      simp [PyData.showable, PyData.showableKv] at e1 e2 ⊢
      exact ⟨e1, e2⟩
    · simp [PyData.depth, PyData.depthKv, D.deepR]
  | .exn _ _, g => g.elim
  | .opq _, g => g.elim
theorem goodsR_py {k : Nat} (hk : 0 < k) (hk2 : k ≤ 500) : ∀ ds : List D, D.GoodsR k ds → ∃ p, PyRsof k ds p
  | [], _ => ⟨[], by unfold D.pyRs; rfl, rfl, rfl, Nat.le_refl _, Nat.le_refl _⟩
  | d :: ds, g => by
    unfold D.GoodsR at g
    obtain ⟨p, q⟩ := goodR_py hk hk2 d g.1
    obtain ⟨ps, qs⟩ := goodsR_py hk hk2 ds g.2
    refine ⟨p :: ps, by unfold D.pyRs; rw [q.py, qs.py], ?_, ?_, ?_, ?_⟩
    · unfold PyData.leavesShortAll; rw [q.short, qs.short]; rfl
    · unfold PyData.showableAll; rw [q.show', qs.show']; rfl
    · unfold PyData.bulkAll D.bulksR; have := q.bulk; have := qs.bulk; omega
    · unfold PyData.depthAll D.deepsR; have := q.deep; have := qs.deep; omega
end
def D.shownR (d : D) : Str := match D.pyR d with | some p => p.shown | none => ""
theorem o_reprV {k : Nat} {d : D} {h : Hq} {P : D × Hq → Prop} (g : d.GoodR k) (hk : 7 ≤ k) (hk2 : k ≤ 500) (hb : (k + 3) * d.bulkR + (k + 1) ≤ 16777216) (hd : d.deepR ≤ 64) (p : P (.str d.shownR, h)) : OkO (biD .reprV false [d] h) P := by
  obtain ⟨q, q1⟩ := goodR_py (by omega) hk2 d g
  refine ⟨_, ?_, p⟩
  show reprVD d h = _
  unfold reprVD D.shownR
  rw [q1.py]
  have ok : showX q = true := by
    unfold showX lineOk
    rw [q1.show']
    have := PyData.shown_le_bulk (k + 1) (by omega) q q1.short
    have b := q1.bulk
    have : (k + 3) * q.bulk ≤ (k + 3) * d.bulkR := Nat.mul_le_mul_left _ b
    simp only [Bool.true_and, Bool.and_eq_true, decide_eq_true_eq]
    have e : k + 1 + 2 = k + 3 := by omega
    rw [e] at *
    exact ⟨Nat.le_trans q1.deep hd, by omega⟩
  dsimp only
  rw [if_pos ok]
mutual
theorem goodR_vv {k : Nat} : ∀ {d : D}, d.GoodR k → vv d = true
  | .non, _ => rfl
  | .bl _, _ => rfl
  | .int _, _ => rfl
  | .str _, _ => rfl
  | .ktp _, _ => rfl
  | .opq _, h => h.elim
  | .tup ds, h => by unfold D.GoodR at h; unfold vv; exact goodsR_vvs h
  | .lst ds, h => by unfold D.GoodR at h; unfold vv; exact goodsR_vvs h
  | .dct [], h => rfl
  | .dct [.int _, .int _], h => rfl
  | .kpp _, h => h.elim
  | .scr _, h => h.elim
  | .ref _, h => h.elim
  | .exn _ _, h => h.elim
theorem goodsR_vvs {k : Nat} : ∀ {ds : List D}, D.GoodsR k ds → vvs ds = true
  | [], _ => rfl
  | d :: ds, h => by
    unfold D.GoodsR at h
    unfold vvs
    rw [goodR_vv h.1, goodsR_vvs h.2]; rfl
end
/-- a value whose text is not too long -/
structure VF (n k : Nat) (d : D) : Prop where
  good : d.GoodR 450
  bulk : d.bulkR ≤ n
  deep : d.deepR ≤ k
theorem VF.mono {n k n' k' : Nat} {d : D} (h : VF n k d) (h1 : n ≤ n') (h2 : k ≤ k') : VF n' k' d := ⟨h.good, Nat.le_trans h.bulk h1, Nat.le_trans h.deep h2⟩
theorem VF.vv {n k : Nat} {d : D} (h : VF n k d) : vv d = true := goodR_vv h.good
theorem VF.pure {n k : Nat} {d : D} (h : VF n k d) : d.pure = true := vv_pure h.vv
theorem vf_int {i : Int} (h0 : -(10 ^ 450) < i) (h1 : i < 10 ^ 450) : VF 0 0 (.int i) := ⟨by unfold D.GoodR; omega, Nat.le_refl _, Nat.le_refl _⟩
theorem vf_non : VF 0 0 .non := ⟨trivial, Nat.le_refl _, Nat.le_refl _⟩
theorem vf_bl {b : Bool} : VF 0 0 (.bl b) := ⟨trivial, Nat.le_refl _, Nat.le_refl _⟩
theorem vf_dct0 : VF 2 1 (.dct []) := ⟨by unfold D.GoodR; trivial, Nat.le_refl _, Nat.le_refl _⟩
theorem vf_dct1 {i j : Int} (h0 : -(10 ^ 450) < i) (h1 : i < 10 ^ 450) (g0 : -(10 ^ 450) < j) (g1 : j < 10 ^ 450) : VF 2 1 (.dct [.int i, .int j]) := ⟨by unfold D.GoodR; omega, Nat.le_refl _, Nat.le_refl _⟩
theorem goodsR_of {k : Nat} : ∀ {ds : List D}, (∀ d ∈ ds, d.GoodR k) → D.GoodsR k ds
  | [], _ => by unfold D.GoodsR; trivial
  | d :: ds, h => by
    unfold D.GoodsR
    exact ⟨h d List.mem_cons_self, goodsR_of fun x hx => h x (List.mem_cons_of_mem _ hx)⟩
theorem bulksR_of {n : Nat} : ∀ {ds : List D}, (∀ d ∈ ds, d.bulkR ≤ n) → D.bulksR ds ≤ (n + 1) * ds.length
  | [], _ => Nat.zero_le _
  | d :: ds, h => by
    have := bulksR_of fun x hx => h x (List.mem_cons_of_mem _ hx)
    have := h d List.mem_cons_self
    unfold D.bulksR
    rw [List.length_cons, Nat.mul_succ]
    omega
theorem deepsR_of {n : Nat} : ∀ {ds : List D}, (∀ d ∈ ds, d.deepR ≤ n) → D.deepsR ds ≤ n
  | [], _ => Nat.zero_le _
  | d :: ds, h => by
    have := deepsR_of fun x hx => h x (List.mem_cons_of_mem _ hx)
    have := h d List.mem_cons_self
    unfold D.deepsR
    omega
theorem vf_tup {n k l : Nat} {ds : List D} (h : ∀ d ∈ ds, VF n k d) (hl : ds.length ≤ l) : VF ((n + 1) * l) (k + 1) (.tup ds) := ⟨by unfold D.GoodR; exact goodsR_of fun d hd => (h d hd).good, by
    unfold D.bulkR
    exact Nat.le_trans (bulksR_of fun d hd => (h d hd).bulk) (Nat.mul_le_mul_left _ hl), by
    unfold D.deepR
    have := deepsR_of fun d hd => (h d hd).deep
    omega⟩
theorem vf_lst {n k l : Nat} {ds : List D} (h : ∀ d ∈ ds, VF n k d) (hl : ds.length ≤ l) : VF ((n + 1) * l) (k + 1) (.lst ds) := ⟨by unfold D.GoodR; exact goodsR_of fun d hd => (h d hd).good, by
    unfold D.bulkR
    exact Nat.le_trans (bulksR_of fun d hd => (h d hd).bulk) (Nat.mul_le_mul_left _ hl), by
    unfold D.deepR
    have := deepsR_of fun d hd => (h d hd).deep
    omega⟩
theorem vf_str {s : Str} {n : Nat} (h : ∀ c ∈ s.cps.toList, c < 1114112) (hl : s.cps.size ≤ n) : VF n 0 (.str s) := ⟨by unfold D.GoodR; exact fun c hc => Nat.lt_trans (h c hc) (by decide), by unfold D.bulkR; exact hl, Nat.le_refl _⟩
theorem VF.repr {n k : Nat} {d : D} {h : Hq} {P : D × Hq → Prop} (v : VF n k d) (hn : n ≤ 30000) (hk : k ≤ 60) (p : P (.str d.shownR, h)) : OkO (biD .reprV false [d] h) P :=
  o_reprV v.good (by decide) (by decide) (by have := v.bulk; omega) (by have := v.deep; omega) p
/-! ### what judges them -/
def tupW : D → Option (List D)
  | .tup ds => some ds
  | .ktp ns => some (ns.map .int)
  | _ => none
def intW : D → Option Int
  | .int i => some i
  | _ => none
def inW (v : D) (a b : Int) : Bool := match v with
  | .int n => decide (a ≤ n) && decide (n ≤ b)
  | _ => false
def IsIntV (f : List D → Hq → R (D × Hq)) : Prop := ∀ (v : D) (h : Hq), vv v = true → Wp (f [v] h) fun p => p = (.bl (intW v).isSome, h)
theorem isintV_ok {φ : Fn} : IsIntV (runDef φ R_isint) := by
  intro v h hv
  refine pure_def rfl rfl (by simp [D.pures, vv_pure hv]) rfl ?_
  cases v with
  | int i =>
    refine FF.x_cons ?_
    refine FF.x_ret ?_
    refine FF.x_and ?_
    refine FF.x_bi ?_
    refine FF.x_acons ?_
    refine FF.x_var (by rfl) ?_
    refine FF.x_anil ?_
    refine FF.OkO.of rfl ?_
    refine FF.OkO.of rfl ?_
    refine FF.Cd.tt ?_
    refine FF.x_not ?_
    refine FF.x_bi ?_
    refine FF.x_acons ?_
    refine FF.x_var (by rfl) ?_
    refine FF.x_anil ?_
    refine FF.OkO.of rfl ?_
    refine FF.OkO.of rfl ?_
    refine FF.nxt_rt ?_
    try dsimp only [List.set_cons_zero, List.set_cons_succ]
    refine FF.end_rt ?_
    try dsimp only [List.set_cons_zero, List.set_cons_succ]
    exact thaw1_pure rfl
  | bl b =>
    refine FF.x_cons ?_
    refine FF.x_ret ?_
    refine FF.x_and ?_
    refine FF.x_bi ?_
    refine FF.x_acons ?_
    refine FF.x_var (by rfl) ?_
    refine FF.x_anil ?_
    refine FF.OkO.of rfl ?_
    refine FF.OkO.of rfl ?_
    refine FF.Cd.tt ?_
    refine FF.x_not ?_
    refine FF.x_bi ?_
    refine FF.x_acons ?_
    refine FF.x_var (by rfl) ?_
    refine FF.x_anil ?_
    refine FF.OkO.of rfl ?_
    refine FF.OkO.of rfl ?_
    refine FF.nxt_rt ?_
    try dsimp only [List.set_cons_zero, List.set_cons_succ]
    refine FF.end_rt ?_
    try dsimp only [List.set_cons_zero, List.set_cons_succ]
    exact thaw1_pure rfl
  | kpp _ => cases hv
  | scr _ => cases hv
  | ref _ => cases hv
  | exn _ _ => cases hv
  | opq _ =>
    refine FF.x_cons ?_
    refine FF.x_ret ?_
    refine FF.x_and ?_
    refine FF.x_bi ?_
    refine FF.x_acons ?_
    refine FF.x_var (by rfl) ?_
    refine FF.x_anil ?_
    refine FF.OkO.of rfl ?_
    refine FF.OkO.of rfl ?_
    refine FF.Cd.ff ?_
    refine FF.nxt_rt ?_
    try dsimp only [List.set_cons_zero, List.set_cons_succ]
    refine FF.end_rt ?_
    try dsimp only [List.set_cons_zero, List.set_cons_succ]
    exact thaw1_pure rfl
  | _ =>
    refine FF.x_cons ?_
    refine FF.x_ret ?_
    refine FF.x_and ?_
    refine FF.x_bi ?_
    refine FF.x_acons ?_
    refine FF.x_var (by rfl) ?_
    refine FF.x_anil ?_
    refine FF.OkO.of rfl ?_
    refine FF.OkO.of rfl ?_
    refine FF.Cd.ff ?_
    refine FF.nxt_rt ?_
    try dsimp only [List.set_cons_zero, List.set_cons_succ]
    refine FF.end_rt ?_
    try dsimp only [List.set_cons_zero, List.set_cons_succ]
    exact thaw1_pure rfl
def WithinV (f : List D → Hq → R (D × Hq)) : Prop := ∀ (v : D) (a b : Int) (h : Hq), vv v = true → Wp (f [v, .int a, .int b] h) fun p => p = (.bl (inW v a b), h)
theorem withinV_ok {φ : Fn} (h84 : IsIntV (φ 84)) : WithinV (runDef φ R_iswithin) := by
  intro v a b h hv
  refine pure_def rfl rfl (by simp [D.pures, vv_pure hv, D.pure]) rfl ?_
  refine FF.x_cons ?_
  refine FF.x_ret ?_
  refine FF.x_and ?_
  refine FF.x_call ?_
  refine FF.x_acons ?_
  refine FF.x_var (by rfl) ?_
  refine FF.x_anil ?_
  try dsimp only [List.set_cons_zero, List.set_cons_succ]
  refine (h84 v _ hv).mono ?_
  rintro _ rfl
  cases v with
  | int i =>
    refine FF.OkO.of rfl ?_
    refine FF.Cd.tt ?_
    refine FF.x_cmp2 ?_
    refine FF.x_var (by rfl) ?_
    refine FF.x_var (by rfl) ?_
    refine FF.OkO.of rfl ?_
    try dsimp only [List.set_cons_zero, List.set_cons_succ]
    refine ⟨_, rfl, fun c => ?_, fun c => ?_⟩
    · refine FF.x_var (by rfl) ?_
      refine FF.OkO.of rfl ?_
      refine FF.nxt_rt ?_
      try dsimp only [List.set_cons_zero, List.set_cons_succ]
      refine FF.end_rt ?_
      try dsimp only [List.set_cons_zero, List.set_cons_succ]
      have e : inW (.int i) a b = decide (i ≤ b) := by show (_ && _) = _; rw [c, Bool.true_and]
      rw [e]
      exact thaw1_pure rfl
    · refine FF.nxt_rt ?_
      try dsimp only [List.set_cons_zero, List.set_cons_succ]
      refine FF.end_rt ?_
      try dsimp only [List.set_cons_zero, List.set_cons_succ]
      have e : inW (.int i) a b = false := by show (_ && _) = _; rw [c, Bool.false_and]
      rw [e]
      exact thaw1_pure rfl
  | _ =>
    refine FF.OkO.of rfl ?_
    refine FF.Cd.ff ?_
    refine FF.nxt_rt ?_
    try dsimp only [List.set_cons_zero, List.set_cons_succ]
    refine FF.end_rt ?_
    try dsimp only [List.set_cons_zero, List.set_cons_succ]
    exact thaw1_pure rfl
def sizedW (v : D) (n : Int) : Bool := match tupW v with
  | some ds => decide ((1 : Int) ≤ ds.length) && decide ((ds.length : Int) ≤ n)
  | none => false
def IsTupV (f : List D → Hq → R (D × Hq)) : Prop := ∀ (v : D) (n : Int) (h : Hq), vv v = true → Wp (f [v, .int n] h) fun p => p = (.bl (sizedW v n), h)
theorem istupV_ok {φ : Fn} : IsTupV (runDef φ R_istuple) := by
  intro v n h hv
  refine pure_def rfl rfl (by simp [D.pures, vv_pure hv, D.pure]) rfl ?_
  cases v with
  | tup ds =>
    refine FF.x_cons ?_
    refine FF.x_ret ?_
    refine FF.x_and ?_
    refine FF.x_bi ?_
    refine FF.x_acons ?_
    refine FF.x_var (by rfl) ?_
    refine FF.x_anil ?_
    refine FF.OkO.of rfl ?_
    refine FF.OkO.of rfl ?_
    refine FF.Cd.tt ?_
    refine FF.x_cmp2 ?_
    refine FF.x_const ?_
    refine FF.x_bi ?_
    refine FF.x_acons ?_
    refine FF.x_var (by rfl) ?_
    refine FF.x_anil ?_
    refine FF.OkO.of rfl ?_
    refine FF.OkO.of rfl ?_
    try dsimp only [List.set_cons_zero, List.set_cons_succ]
    refine ⟨_, rfl, fun c => ?_, fun c => ?_⟩
    · refine FF.x_var (by rfl) ?_
      refine FF.OkO.of rfl ?_
      refine FF.nxt_rt ?_
      try dsimp only [List.set_cons_zero, List.set_cons_succ]
      refine FF.end_rt ?_
      try dsimp only [List.set_cons_zero, List.set_cons_succ]
      have e : sizedW (.tup ds) n = decide ((ds.length : Int) ≤ n) := by show (_ && _) = _; rw [c, Bool.true_and]
      rw [e]
      exact thaw1_pure rfl
    · refine FF.nxt_rt ?_
      try dsimp only [List.set_cons_zero, List.set_cons_succ]
      refine FF.end_rt ?_
      try dsimp only [List.set_cons_zero, List.set_cons_succ]
      have e : sizedW (.tup ds) n = false := by show (_ && _) = _; rw [c, Bool.false_and]
      rw [e]
      exact thaw1_pure rfl
  | ktp ns =>
    refine FF.x_cons ?_
    refine FF.x_ret ?_
    refine FF.x_and ?_
    refine FF.x_bi ?_
    refine FF.x_acons ?_
    refine FF.x_var (by rfl) ?_
    refine FF.x_anil ?_
    refine FF.OkO.of rfl ?_
    refine FF.OkO.of rfl ?_
    refine FF.Cd.tt ?_
    refine FF.x_cmp2 ?_
    refine FF.x_const ?_
    refine FF.x_bi ?_
    refine FF.x_acons ?_
    refine FF.x_var (by rfl) ?_
    refine FF.x_anil ?_
    refine FF.OkO.of rfl ?_
    refine FF.OkO.of rfl ?_
    try dsimp only [List.set_cons_zero, List.set_cons_succ]
    refine ⟨_, rfl, fun c => ?_, fun c => ?_⟩
    · refine FF.x_var (by rfl) ?_
      refine FF.OkO.of rfl ?_
      refine FF.nxt_rt ?_
      try dsimp only [List.set_cons_zero, List.set_cons_succ]
      refine FF.end_rt ?_
      try dsimp only [List.set_cons_zero, List.set_cons_succ]
      have e : sizedW (.ktp ns) n = decide (((ns.map D.int).length : Int) ≤ n) := by show (_ && _) = _; rw [c, Bool.true_and]
      rw [e]
      exact thaw1_pure rfl
    · refine FF.nxt_rt ?_
      try dsimp only [List.set_cons_zero, List.set_cons_succ]
      refine FF.end_rt ?_
      try dsimp only [List.set_cons_zero, List.set_cons_succ]
      have e : sizedW (.ktp ns) n = false := by show (_ && _) = _; rw [c, Bool.false_and]
      rw [e]
      exact thaw1_pure rfl
  | kpp _ => cases hv
  | scr _ => cases hv
  | ref _ => cases hv
  | exn _ _ => cases hv
  | opq _ =>
    refine FF.x_cons ?_
    refine FF.x_ret ?_
    refine FF.x_and ?_
    refine FF.x_bi ?_
    refine FF.x_acons ?_
    refine FF.x_var (by rfl) ?_
    refine FF.x_anil ?_
    refine FF.OkO.of rfl ?_
    refine FF.OkO.of rfl ?_
    refine FF.Cd.ff ?_
    refine FF.nxt_rt ?_
    try dsimp only [List.set_cons_zero, List.set_cons_succ]
    refine FF.end_rt ?_
    try dsimp only [List.set_cons_zero, List.set_cons_succ]
    exact thaw1_pure rfl
  | _ =>
    refine FF.x_cons ?_
    refine FF.x_ret ?_
    refine FF.x_and ?_
    refine FF.x_bi ?_
    refine FF.x_acons ?_
    refine FF.x_var (by rfl) ?_
    refine FF.x_anil ?_
    refine FF.OkO.of rfl ?_
    refine FF.OkO.of rfl ?_
    refine FF.Cd.ff ?_
    refine FF.nxt_rt ?_
    try dsimp only [List.set_cons_zero, List.set_cons_succ]
    refine FF.end_rt ?_
    try dsimp only [List.set_cons_zero, List.set_cons_succ]
    exact thaw1_pure rfl
def IsSizeV (f : List D → Hq → R (D × Hq)) : Prop := ∀ (v : D) (h : Hq), vv v = true → Wp (f [v] h) fun p => p = (.bl (inW v 1 T30), h)
theorem issizeV_ok {φ : Fn} (h85 : WithinV (φ 85)) : IsSizeV (runDef φ R_issize) := by
  intro v h hv
  refine pure_def rfl rfl (by simp [D.pures, vv_pure hv]) rfl ?_
  refine FF.x_cons ?_
  refine FF.x_ret ?_
  refine FF.x_call ?_
  refine FF.x_acons ?_
  refine FF.x_var (by rfl) ?_
  refine FF.x_acons ?_
  refine FF.x_const ?_
  refine FF.x_acons ?_
  refine FF.x_glob ?_
  refine FF.x_anil ?_
  try dsimp only [List.set_cons_zero, List.set_cons_succ]
  refine (h85 v 1 T30 _ hv).mono ?_
  rintro _ rfl
  refine FF.nxt_rt ?_
  try dsimp only [List.set_cons_zero, List.set_cons_succ]
  refine FF.end_rt ?_
  try dsimp only [List.set_cons_zero, List.set_cons_succ]
  exact thaw1_pure rfl
def alW (v : D) : Bool := match v with
  | .int n => decide (n ∈ [1, 2, 4, 8, 16, 32, (64 : Int)])
  | _ => false
def IsAlV (f : List D → Hq → R (D × Hq)) : Prop := ∀ (v : D) (h : Hq), vv v = true → Wp (f [v] h) fun p => p = (.bl (alW v), h)
theorem isalV_ok {φ : Fn} (h84 : IsIntV (φ 84)) : IsAlV (runDef φ R_isal) := by
  intro v h hv
  refine pure_def rfl rfl (by simp [D.pures, vv_pure hv]) rfl ?_
  refine FF.x_cons ?_
  refine FF.x_ret ?_
  refine FF.x_and ?_
  refine FF.x_call ?_
  refine FF.x_acons ?_
  refine FF.x_var (by rfl) ?_
  refine FF.x_anil ?_
  try dsimp only [List.set_cons_zero, List.set_cons_succ]
  refine (h84 v _ hv).mono ?_
  rintro _ rfl
  cases v with
  | int i =>
    refine FF.OkO.of rfl ?_
    refine FF.Cd.tt ?_
    refine FF.x_cmp ?_
    refine FF.x_var (by rfl) ?_
    refine FF.x_glob ?_
    refine FF.OkO.of rfl ?_
    refine FF.nxt_rt ?_
    try dsimp only [List.set_cons_zero, List.set_cons_succ]
    refine FF.end_rt ?_
    try dsimp only [List.set_cons_zero, List.set_cons_succ]
    rw [any_row]
    exact thaw1_pure rfl
  | _ =>
    refine FF.OkO.of rfl ?_
    refine FF.Cd.ff ?_
    refine FF.nxt_rt ?_
    try dsimp only [List.set_cons_zero, List.set_cons_succ]
    refine FF.end_rt ?_
    try dsimp only [List.set_cons_zero, List.set_cons_succ]
    exact thaw1_pure rfl
def kindW (v : D) : Bool := match tupW v with
  | some [a, c] => inW a 1 T30 && alW c
  | _ => false
def IsKindV (f : List D → Hq → R (D × Hq)) : Prop := ∀ (v : D) (h : Hq), vv v = true → (∀ ns, v ≠ .ktp ns) → Wp (f [v] h) fun p => p = (.bl (kindW v), h)
theorem iskindV_ok {φ : Fn} (h86 : IsSizeV (φ 86)) (h87 : IsAlV (φ 87)) : IsKindV (runDef φ R_iskind) := by
  intro v h hv nk
  refine pure_def rfl rfl (by simp [D.pures, vv_pure hv]) rfl ?_
  cases v with
  | tup ds =>
    have vd := vvs_mem (show vvs ds = true from hv)
    refine FF.x_cons ?_
    refine FF.x_ret ?_
    refine FF.x_and ?_
    refine FF.x_bi ?_
    refine FF.x_acons ?_
    refine FF.x_var (by rfl) ?_
    refine FF.x_anil ?_
    refine FF.OkO.of rfl ?_
    refine FF.OkO.of rfl ?_
    refine FF.Cd.tt ?_
    refine FF.x_and ?_
    refine FF.x_cmp ?_
    refine FF.x_bi ?_
    refine FF.x_acons ?_
    refine FF.x_var (by rfl) ?_
    refine FF.x_anil ?_
    refine FF.OkO.of rfl ?_
    refine FF.x_const ?_
    refine FF.OkO.of rfl ?_
    refine FF.OkO.of rfl ?_
    try dsimp only [List.set_cons_zero, List.set_cons_succ]
    refine ⟨fun c => ?_, fun c => ?_⟩
    · have c : ds.length = 2 := by have := eq_of_beq c; omega
      obtain ⟨a, e, rfl⟩ : ∃ a e, ds = [a, e] := by
        match ds, c with
        | [a, e], _ => exact ⟨a, e, rfl⟩
      refine FF.x_and ?_
      refine FF.x_call ?_
      refine FF.x_acons ?_
      refine FF.x_ix ?_
      refine FF.x_var (by rfl) ?_
      refine FF.x_const ?_
      refine FF.OkO.of rfl ?_
      refine FF.x_anil ?_
      try dsimp only [List.set_cons_zero, List.set_cons_succ]
      refine (h86 a _ (vd _ (by simp))).mono ?_
      rintro _ rfl
      refine ⟨_, rfl, fun c => ?_, fun c => ?_⟩
      · refine FF.x_call ?_
        refine FF.x_acons ?_
        refine FF.x_ix ?_
        refine FF.x_var (by rfl) ?_
        refine FF.x_const ?_
        refine FF.OkO.of rfl ?_
        refine FF.x_anil ?_
        try dsimp only [List.set_cons_zero, List.set_cons_succ]
        refine (h87 e _ (vd _ (by simp))).mono ?_
        rintro _ rfl
        refine FF.nxt_rt ?_
        try dsimp only [List.set_cons_zero, List.set_cons_succ]
        refine FF.end_rt ?_
        try dsimp only [List.set_cons_zero, List.set_cons_succ]
        have q : kindW (.tup [a, e]) = alW e := by show (_ && _) = _; rw [c, Bool.true_and]
        rw [q]
        exact thaw1_pure (by rfl)
      · refine FF.nxt_rt ?_
        try dsimp only [List.set_cons_zero, List.set_cons_succ]
        refine FF.end_rt ?_
        try dsimp only [List.set_cons_zero, List.set_cons_succ]
        have q : kindW (.tup [a, e]) = false := by show (_ && _) = _; rw [c, Bool.false_and]
        rw [q, c]
        exact thaw1_pure rfl
    · refine FF.nxt_rt ?_
      try dsimp only [List.set_cons_zero, List.set_cons_succ]
      refine FF.end_rt ?_
      try dsimp only [List.set_cons_zero, List.set_cons_succ]
      have q : kindW (.tup ds) = false := by
        have c : ¬ ds.length = 2 := by have := ne_of_beq_false c; omega
        match ds, c with
        | [], _ => rfl
        | [_], _ => rfl
        | [_, _], c => exact absurd rfl c
        | _ :: _ :: _ :: _, _ => rfl
      rw [q, c]
      exact thaw1_pure rfl
  | ktp ns => exact absurd rfl (nk ns)
  | kpp _ => cases hv
  | scr _ => cases hv
  | ref _ => cases hv
  | exn _ _ => cases hv
  | opq _ =>
    refine FF.x_cons ?_
    refine FF.x_ret ?_
    refine FF.x_and ?_
    refine FF.x_bi ?_
    refine FF.x_acons ?_
    refine FF.x_var (by rfl) ?_
    refine FF.x_anil ?_
    refine FF.OkO.of rfl ?_
    refine FF.OkO.of rfl ?_
    refine FF.Cd.ff ?_
    refine FF.nxt_rt ?_
    try dsimp only [List.set_cons_zero, List.set_cons_succ]
    refine FF.end_rt ?_
    try dsimp only [List.set_cons_zero, List.set_cons_succ]
    exact thaw1_pure rfl
  | _ =>
    refine FF.x_cons ?_
    refine FF.x_ret ?_
    refine FF.x_and ?_
    refine FF.x_bi ?_
    refine FF.x_acons ?_
    refine FF.x_var (by rfl) ?_
    refine FF.x_anil ?_
    refine FF.OkO.of rfl ?_
    refine FF.OkO.of rfl ?_
    refine FF.Cd.ff ?_
    refine FF.nxt_rt ?_
    try dsimp only [List.set_cons_zero, List.set_cons_succ]
    refine FF.end_rt ?_
    try dsimp only [List.set_cons_zero, List.set_cons_succ]
    exact thaw1_pure rfl
/-- what is wrong first -/
def firstW (g : D → Bool) (ds : List D) : Option Int := ds.zipIdx.findSome? fun p : D × Nat => if g p.1 = true then none else some (p.2 : Int)
def tagW (s : Str) (o : Option Int) : D := match o with
  | some z => .tup [.str s, .int z]
  | none => .non
def bookW (v : D) : D := if sizedW v 6 = true then tagW "kind" (firstW kindW ((tupW v).getD [])) else .str "form"
def BookErrV (f : List D → Hq → R (D × Hq)) : Prop := ∀ (v : D) (h : Hq), vv v = true → (∀ ns, v ≠ .ktp ns) → (∀ ds, v = .tup ds → ∀ d ∈ ds, ∀ ns, d ≠ .ktp ns) → Wp (f [v] h) fun p => p = (bookW v, h)
theorem bookW_pure (v : D) : (bookW v).pure = true := by
  unfold bookW tagW
  split
  · split <;> rfl
  · rfl
theorem bookerrV_ok {φ : Fn} (h83 : IsTupV (φ 83)) (h88 : IsKindV (φ 88)) : BookErrV (runDef φ R_bookerr) := by
  intro v h hv nk nd
  refine pure_def rfl rfl (by simp [D.pures, vv_pure hv]) (bookW_pure v) ?_
  refine FF.x_cons ?_
  refine FF.x_ite ?_
  refine FF.x_not ?_
  refine FF.x_call ?_
  refine FF.x_acons ?_
  refine FF.x_var (by rfl) ?_
  refine FF.x_acons ?_
  refine FF.x_glob ?_
  refine FF.x_anil ?_
  try dsimp only [List.set_cons_zero, List.set_cons_succ]
  refine (h83 v 6 _ hv).mono ?_
  rintro _ rfl
  refine FF.OkO.of rfl ?_
  refine FF.OkO.of rfl ?_
  try dsimp only [List.set_cons_zero, List.set_cons_succ]
  refine ⟨fun c => ?_, fun c => ?_⟩
  · refine FF.x_cons ?_
    refine FF.x_ret ?_
    refine FF.x_const ?_
    refine FF.nxt_rt ?_
    try dsimp only [List.set_cons_zero, List.set_cons_succ]
    refine FF.nxt_rt ?_
    try dsimp only [List.set_cons_zero, List.set_cons_succ]
    refine FF.end_rt ?_
    try dsimp only [List.set_cons_zero, List.set_cons_succ]
    have c : ¬ sizedW v 6 = true := by simpa using c
    unfold bookW
    rw [if_neg c]
    exact thaw1_pure rfl
  · have c : sizedW v 6 = true := by simpa using c
    cases v with
    | tup ds =>
      have vd := vvs_mem (show vvs ds = true from hv)
      have nd := nd ds rfl
      refine FF.x_nil ?_
      refine FF.nxt_nx ?_
      try dsimp only [List.set_cons_zero, List.set_cons_succ]
      refine FF.x_cons ?_
      refine FF.x_for ?_
      refine FF.x_enum ?_
      refine FF.x_var (by rfl) ?_
      refine FF.OkO.of rfl ?_
      try dsimp only [List.set_cons_zero, List.set_cons_succ]
      unfold enumL
      refine wp_find (fun p : D × Nat => D.tup [.int (p.2 : Nat), p.1]) (fun p : D × Nat => if kindW p.1 = true then none else some (p.2 : Int)) (fun z => .tup [.str "kind", .int z]) (fun s => ∃ d1 d2 : Option D, s = [some (.tup ds), d1, d2]) (by rfl) ds.zipIdx _ ⟨_, _, rfl⟩ ?_ ?_ ?_
      · rintro p hp s ⟨d1, d2, rfl⟩
        have pm := List.mem_of_getElem? (mem_zipIdx_at hp)
        refine FF.x_stepL ?_
        refine FF.OkO.of rfl ?_
        refine FF.x_cons ?_
        refine FF.x_ite ?_
        refine FF.x_not ?_
        refine FF.x_call ?_
        refine FF.x_acons ?_
        refine FF.x_var (by rfl) ?_
        refine FF.x_anil ?_
        try dsimp only [List.set_cons_zero, List.set_cons_succ]
        refine (h88 p.1 _ (vd _ pm) (nd _ pm)).mono ?_
        rintro _ rfl
        refine FF.OkO.of rfl ?_
        refine FF.OkO.of rfl ?_
        try dsimp only [List.set_cons_zero, List.set_cons_succ]
        refine ⟨fun c => ?_, fun c => ?_⟩
        · have c : kindW p.1 = false := by simpa using c
          refine FF.x_cons ?_
          refine FF.x_ret ?_
          refine FF.x_tup ?_
          refine FF.x_acons ?_
          refine FF.x_const ?_
          refine FF.x_acons ?_
          refine FF.x_var (by rfl) ?_
          refine FF.x_anil ?_
          refine FF.OkO.of rfl ?_
          refine FF.nxt_rt ?_
          try dsimp only [List.set_cons_zero, List.set_cons_succ]
          refine FF.nxt_rt ?_
          try dsimp only [List.set_cons_zero, List.set_cons_succ]
          try dsimp only [List.set_cons_zero, List.set_cons_succ]
          exact .inl ⟨_, if_neg (by rw [c]; simp), rfl⟩
        · have c : kindW p.1 = true := by simpa using c
          refine FF.x_nil ?_
          refine FF.nxt_nx ?_
          try dsimp only [List.set_cons_zero, List.set_cons_succ]
          refine FF.x_nil ?_
          try dsimp only [List.set_cons_zero, List.set_cons_succ]
          exact .inr ⟨if_pos c, _, rfl, _, _, rfl⟩
      · intro z e
        refine FF.nxt_rt ?_
        try dsimp only [List.set_cons_zero, List.set_cons_succ]
        refine FF.end_rt ?_
        try dsimp only [List.set_cons_zero, List.set_cons_succ]
        unfold bookW
        rw [if_pos c, show firstW kindW ((tupW (.tup ds)).getD []) = some z from e]
        exact thaw1_pure rfl
      · rintro e s ⟨d1, d2, rfl⟩
        refine FF.nxt_nx ?_
        try dsimp only [List.set_cons_zero, List.set_cons_succ]
        refine FF.x_cons ?_
        refine FF.x_ret ?_
        refine FF.x_const ?_
        refine FF.nxt_rt ?_
        try dsimp only [List.set_cons_zero, List.set_cons_succ]
        refine FF.end_rt ?_
        try dsimp only [List.set_cons_zero, List.set_cons_succ]
        unfold bookW
        rw [if_pos c, show firstW kindW ((tupW (.tup ds)).getD []) = none from e]
        exact thaw1_pure rfl
    | ktp ns => exact absurd rfl (nk ns)
    | _ => cases c
theorem wp_fmapV {w : Watch} {step : D → Hq → R (Option D × Hq)} {Q : List D × Hq → Prop} {h : Hq} (g : D → Option D) (ds : List D) (hw : stands h w = true) (hl : ds.length ≤ 16777216)
    (hs : ∀ a ∈ ds, Wp (step a h) fun r => r = (g a, h)) (q : Q (ds.filterMap g, h)) : Wp (turns w step ds [] h) Q := by
  have := wp_fmap (Q := Q) (fun d : D => d) g ds hw hl hs q
  rwa [List.map_id'] at this
theorem vf_num {i : Int} (h0 : 0 ≤ i) (h1 : i ≤ T30) : VF 31 0 (.str (numS i)) := vf_str (fun c hc => by have := numS_digit h0 hc; omega) (numS_len h0 h1).2
def noK (d : D) : Prop := ∀ ns, d ≠ .ktp ns
/-! ### desks -/
theorem inW_int {i a b : Int} : inW (.int i) a b = true ↔ a ≤ i ∧ i ≤ b := by
  show (decide _ && decide _) = true ↔ _
  rw [Bool.and_eq_true, decide_eq_true_iff, decide_eq_true_iff]
theorem kindW_kind {k : Int × Int} (hk : Kind k) : kindW (kindD k) = true := by
  show (inW (.int k.1) 1 T30 && alW (.int k.2)) = true
  have h := hk.ap
  unfold Pow2 at h
  rw [(inW_int).mpr ⟨hk.s0, hk.s1⟩, Bool.true_and]
  show decide (_ ∈ _) = true
  rw [decide_eq_true_iff]
  simp only [List.mem_cons, List.not_mem_nil, or_false]
  omega
theorem firstW_none {g : D → Bool} {ds : List D} (h : ∀ d ∈ ds, g d = true) : firstW g ds = none := by
  unfold firstW
  rw [List.findSome?_eq_none_iff]
  intro p hp
  rw [if_pos (h p.1 (List.mem_of_getElem? (mem_zipIdx_at hp)))]
theorem bookW_book {b : List (Int × Int)} (b0 : 0 < b.length) (b6 : b.length ≤ 6) (hk : ∀ k ∈ b, Kind k) : bookW (bookD b) = .non := by
  unfold bookW
  have S : sizedW (bookD b) 6 = true := by
    show (decide _ && decide _) = true
    rw [List.length_map, decide_eq_true (by omega), decide_eq_true (by omega)]; rfl
  rw [if_pos S]
  show tagW "kind" (firstW kindW (b.map kindD)) = .non
  rw [firstW_none fun d hd => by
    obtain ⟨k, h, rfl⟩ := List.mem_map.mp hd
    exact kindW_kind (hk k h)]
  rfl
def DeskOk (f : List D → Hq → R (D × Hq)) : Prop := ∀ (b : List (Int × Int)) (h : Hq), 0 < b.length → b.length ≤ 6 → (∀ k ∈ b, Kind k) → Wp (f [bookD b] h) fun p => p = (.opq 1, h)
theorem vv_book (b : List (Int × Int)) : vv (bookD b) = true := vvs_of fun d hd => by
  obtain ⟨k, _, rfl⟩ := List.mem_map.mp hd
  rfl
theorem deskI_ok {φ : Fn} (h89 : BookErrV (φ 89)) : DeskOk (runDef φ (dInit 89)) := by
  intro b h b0 b6 hk
  rw [dInit_eq]
  refine .bind ((h89 (bookD b) h (vv_book b) (fun _ e => by cases e) (fun ds e d hd ns e2 => by
    cases e
    obtain ⟨k, _, rfl⟩ := List.mem_map.mp hd
    cases e2)).mono ?_)
  rintro _ rfl
  rw [bookW_book b0 b6 hk]
  exact .ok rfl
theorem dMake_eq {φ : Fn} {ini : Nat} {d : D} {h : Hq} : runDef φ (dMake ini) [d] h = φ ini [d] h := by
  show (exB φ (dMake ini).body [some d] h).bind endOf = _
  unfold dMake
  dsimp only
  unfold exB exS ev evs evs ev
  simp only [R.bind, List.getElem?_cons_zero]
  cases φ ini [d] h <;> rfl
theorem deskM_ok {φ : Fn} (h : DeskOk (φ 9000)) : DeskOk (runDef φ (dMake 9000)) := by
  intro b hp b0 b6 hk
  rw [dMake_eq]
  exact h b hp b0 b6 hk
end FF

namespace FF.k01
open PySem PySem.Spec PyProof.Rows L2 FF
def top (i : Nat) : Stmt := PySem.Challenge.pw_fallingfields_k01_what_is_a_book.main.body.getD i (.Pass ⟨0, 0, 0, 0⟩)
abbrev s_q_law_reel : Stmt := top 41
def d_q_law_reel : Def := ⟨.live, 1, ["script", "cells", "stamp", "own", "deep"], (.cons (.set (.tup (.cons (.name 1) (.cons (.name 2) .nil))) (.tup (.cons (.comp false (.name 3) (.ex (.slice (.var 0) .no (.yes (.const (.int 63))))) .nil (.ife (.cmp .GtE (.var 3) (.const (.int 0))) (.bin .Mult false (.const (.int 2)) (.var 3)) (.bin .Sub false (.bin .Mult false (.neg (.const (.int 2))) (.var 3)) (.const (.int 1)))) [3]) (.cons (.bin .Add false (.bi .len false (.cons (.var 0) .nil)) (.const (.int 7))) .nil)))) (.cons (.for (.name 3) (.ex (.var 1)) (.cons (.set (.name 2) (.bin .Mod false (.bi .int false (.cons (.bin .Add false (.bin .Add false (.bin .Mult false (.var 2) (.const (.int 69069))) (.bin .Mult false (.var 3) (.const (.int 11)))) (.const (.int 5))) .nil)) (.const (.int 4294967291)))) .nil)) (.cons (.set (.name 4) (.comp true (.name 3) (.ex (.var 1)) (.cons (.cmp .GtE (.var 3) (.bin .Pow false (.const (.int 10)) (.const (.int 18)))) .nil) (.var 3) [3])) (.cons (.ret (.dct true (.cons (.const (.str "deep")) (.cons (.var 4) (.cons (.const (.str "cells")) (.cons (.bin .Add false (.var 1) (.lst false (.cons (.bin .Add false (.bin .Mult false (.const (.int 2)) (.bi .len false (.cons (.var 1) .nil))) (.const (.int 1))) .nil))) (.cons (.const (.str "stamp")) (.cons (.var 2) (.cons (.const (.str "count")) (.cons (.const (.int 0)) .nil)))))))))) .nil))))⟩
abbrev s_q_law_draw : Stmt := top 42
def d_q_law_draw : Def := ⟨.trim, 2, ["reel", "many", "deep", "own", "count", "cells", "mixed", "turn"], (.cons (.set (.name 2) (.ix (.var 0) (.const (.str "deep")))) (.cons (.ite (.andV (.cmp .NotEq (.var 2) (.lst false .nil)) (.cmp .Gt (.var 1) (.const (.int 1)))) (.cons (.set (.name 3) (.me .pop (.var 2) .nil)) (.cons (.ite (.cmp .GtE (.var 3) (.var 1)) (.cons (.expr (.me .append (.var 2) (.cons (.bin .FloorDiv false (.var 3) (.var 1)) .nil))) .nil) .nil) (.cons (.ret (.bin .Mod false (.bi .int false (.cons (.var 3) .nil)) (.var 1))) .nil))) .nil) (.cons (.setIx (.var 0) (.const (.str "count")) (.bin .Add false (.ix (.var 0) (.const (.str "count"))) (.const (.int 1)))) (.cons (.set (.tup (.cons (.name 4) (.cons (.name 5) .nil))) (.tup (.cons (.ix (.var 0) (.const (.str "count"))) (.cons (.ix (.var 0) (.const (.str "cells"))) .nil)))) (.cons (.set (.name 6) (.bin .Mod false (.bi .int false (.cons (.bin .Add false (.bin .Add false (.bin .Mult false (.ix (.var 5) (.bin .Mod false (.bi .int false (.cons (.bin .Mult false (.var 4) (.const (.int 7))) .nil)) (.bi .len false (.cons (.var 5) .nil)))) (.const (.int 2246822519))) (.ix (.var 0) (.const (.str "stamp")))) (.bin .Mult false (.var 4) (.const (.int 3266489917)))) .nil)) (.const (.int 4294967291)))) (.cons (.for (.name 7) (.range1 (.const (.int 2))) (.cons (.set (.name 6) (.bin .Mod false (.bi .int false (.cons (.bin .Add false (.bin .Mult false (.var 6) (.var 6)) (.bin .Mult false (.ix (.var 0) (.const (.str "stamp"))) (.bin .Add false (.var 4) (.var 7)))) .nil)) (.const (.int 4294967279)))) .nil)) (.cons (.ret (.bin .Mod false (.bi .int false (.cons (.bin .FloorDiv false (.var 6) (.const (.int 512))) .nil)) (.var 1))) .nil)))))))⟩
abbrev s_q_law_pick : Stmt := top 43
def d_q_law_pick : Def := ⟨.trim, 2, ["reel", "things"], (.cons (.ret (.ix (.var 1) (.call 2 (.cons (.var 0) (.cons (.bi .len false (.cons (.var 1) .nil)) .nil))))) .nil)⟩
abbrev s_q_law_size : Stmt := top 46
def d_q_law_size : Def := ⟨.trim, 2, ["reel", "step", "near", "lot", "far", "off"], (.cons (.set (.tup (.cons (.name 2) (.cons (.name 3) .nil))) (.tup (.cons (.bin .Mult false (.var 1) (.bin .Add false (.const (.int 1)) (.call 2 (.cons (.var 0) (.cons (.const (.int 6)) .nil))))) (.cons (.call 2 (.cons (.var 0) (.cons (.const (.int 9)) .nil))) .nil)))) (.cons (.ite (.cmp .Lt (.var 3) (.const (.int 3))) (.cons (.ret (.var 2)) .nil) .nil) (.cons (.ite (.cmp .Lt (.var 3) (.const (.int 6))) (.cons (.ret (.bi .max2 false (.cons (.const (.int 1)) (.cons (.bin .Add false (.var 2) (.call 3 (.cons (.var 0) (.cons (.lst false (.cons (.neg (.const (.int 1))) (.cons (.const (.int 1)) (.cons (.neg (.const (.int 2))) (.cons (.const (.int 3)) .nil))))) .nil)))) .nil)))) .nil) .nil) (.cons (.ite (.cmp .Lt (.var 3) (.const (.int 8))) (.cons (.ret (.bin .Add false (.const (.int 1)) (.call 2 (.cons (.var 0) (.cons (.const (.int 40)) .nil))))) .nil) .nil) (.cons (.set (.name 4) (.bin .Sub false (.bin .Pow false (.const (.int 10)) (.const (.int 30))) (.bin .Mult false (.var 1) (.call 2 (.cons (.var 0) (.cons (.const (.int 9)) .nil)))))) (.cons (.set (.name 5) (.call 3 (.cons (.var 0) (.cons (.lst false (.cons (.const (.int 0)) (.cons (.const (.int 0)) (.cons (.neg (.const (.int 1))) (.cons (.const (.int 1)) (.cons (.bin .FloorDiv false (.neg (.var 1)) (.const (.int 2))) (.cons (.bin .Sub false (.const (.int 0)) (.bin .Mult false (.call 2 (.cons (.var 0) (.cons (.bin .Pow false (.const (.int 10)) (.const (.int 6))) .nil))) (.bin .Pow false (.const (.int 10)) (.const (.int 23))))) .nil))))))) .nil)))) (.cons (.ret (.bi .min2 false (.cons (.bin .Pow false (.const (.int 10)) (.const (.int 30))) (.cons (.bi .max2 false (.cons (.const (.int 1)) (.cons (.bin .Add false (.var 4) (.var 5)) .nil))) .nil)))) .nil)))))))⟩
abbrev s_q_law_book : Stmt := top 47
def d_q_law_book : Def := ⟨.trim, 2, ["reel", "many", "found", "place", "step"], (.cons (.set (.name 2) (.lst true .nil)) (.cons (.for (.name 3) (.range1 (.var 1)) (.cons (.set (.name 4) (.call 3 (.cons (.var 0) (.cons (.lst false (.cons (.const (.int 1)) (.cons (.const (.int 1)) (.cons (.const (.int 2)) (.cons (.const (.int 2)) (.cons (.const (.int 4)) (.cons (.const (.int 4)) (.cons (.const (.int 8)) (.cons (.const (.int 16)) (.cons (.const (.int 32)) (.cons (.const (.int 64)) .nil))))))))))) .nil)))) (.cons (.expr (.me .append (.var 2) (.cons (.tup (.cons (.call 4 (.cons (.var 0) (.cons (.var 4) .nil))) (.cons (.var 4) .nil))) .nil))) (.cons (.ite (.andV (.cmp .Gt (.var 3) (.const (.int 0))) (.cmp .Eq (.call 2 (.cons (.var 0) (.cons (.const (.int 9)) .nil))) (.const (.int 0)))) (.cons (.setIx (.var 2) (.var 3) (.ix (.var 2) (.bin .Sub false (.var 3) (.const (.int 1))))) .nil) .nil) .nil)))) (.cons (.ret (.bi .tuple false (.cons (.var 2) .nil))) .nil)))⟩
abbrev s_is_tuple : Stmt := top 8
def d_is_tuple : Def := ⟨.pure, 2, ["value", "most"], (.cons (.ret (.andV (.bi .istup false (.cons (.var 0) .nil)) (.cmp2 .LtE .LtE (.const (.int 1)) (.bi .len false (.cons (.var 0) .nil)) (.var 1)))) .nil)⟩
abbrev s_is_integer : Stmt := top 6
def d_is_integer : Def := ⟨.pure, 1, ["value"], (.cons (.ret (.andV (.bi .isint false (.cons (.var 0) .nil)) (.notV (.bi .isbool false (.cons (.var 0) .nil))))) .nil)⟩
abbrev s_is_within : Stmt := top 7
def d_is_within : Def := ⟨.pure, 3, ["value", "least", "most"], (.cons (.ret (.andV (.call 84 (.cons (.var 0) .nil)) (.cmp2 .LtE .LtE (.var 1) (.var 0) (.var 2)))) .nil)⟩
abbrev s_is_size : Stmt := top 9
def d_is_size : Def := ⟨.pure, 1, ["value"], (.cons (.ret (.call 85 (.cons (.var 0) (.cons (.const (.int 1)) (.cons (.glob "MAX_SIZE" (.int 1000000000000000000000000000000)) .nil))))) .nil)⟩
abbrev s_is_alignment : Stmt := top 10
def d_is_alignment : Def := ⟨.pure, 1, ["value"], (.cons (.ret (.andV (.call 84 (.cons (.var 0) .nil)) (.cmp .In (.var 0) (.glob "ALIGNMENTS" (.ktp [1, 2, 4, 8, 16, 32, 64]))))) .nil)⟩
abbrev s_is_kind : Stmt := top 11
def d_is_kind : Def := ⟨.pure, 1, ["value"], (.cons (.ret (.andV (.bi .istup false (.cons (.var 0) .nil)) (.andV (.cmp .Eq (.bi .len false (.cons (.var 0) .nil)) (.const (.int 2))) (.andV (.call 86 (.cons (.ix (.var 0) (.const (.int 0))) .nil)) (.call 87 (.cons (.ix (.var 0) (.const (.int 1))) .nil)))))) .nil)⟩
abbrev s_book_error : Stmt := top 12
def d_book_error : Def := ⟨.pure, 1, ["value", "place", "kind"], (.cons (.ite (.notV (.call 83 (.cons (.var 0) (.cons (.glob "MAX_KINDS" (.int 6)) .nil)))) (.cons (.ret (.const (.str "form"))) .nil) .nil) (.cons (.for (.tup (.cons (.name 1) (.cons (.name 2) .nil))) (.enum (.ex (.var 0))) (.cons (.ite (.notV (.call 88 (.cons (.var 2) .nil))) (.cons (.ret (.tup (.cons (.const (.str "kind")) (.cons (.var 1) .nil)))) .nil) .nil) .nil)) (.cons (.ret (.const .non)) .nil)))⟩
abbrev s_q_law_mixed : Stmt := top 44
def d_q_law_mixed : Def := ⟨.trim, 2, ["reel", "things", "left", "found"], (.cons (.set (.tup (.cons (.name 2) (.cons (.name 3) .nil))) (.tup (.cons (.bi .list true (.cons (.var 1) .nil)) (.cons (.lst true .nil) .nil)))) (.cons (.while (.cmp .NotEq (.var 2) (.lst false .nil)) (.cons (.expr (.me .append (.var 3) (.cons (.me .popAt (.var 2) (.cons (.call 2 (.cons (.var 0) (.cons (.bi .len false (.cons (.var 2) .nil)) .nil))) .nil)) .nil))) .nil)) (.cons (.ret (.var 3)) .nil)))⟩
abbrev s_q_law_far : Stmt := top 50
def d_q_law_far : Def := ⟨.pure, 0, ["found", "turn"], (.cons (.set (.name 0) (.const (.int 1))) (.cons (.for (.name 1) (.range1 (.const (.int 7))) (.cons (.set (.name 0) (.bin .Mult false (.var 0) (.bin .Pow false (.const (.int 10)) (.const (.int 57))))) .nil)) (.cons (.ret (.var 0)) .nil)))⟩
abbrev s_q_law_odd_kind : Stmt := top 51
def d_q_law_odd_kind : Def := ⟨.trim, 2, ["reel", "kind", "size", "step", "far", "odd", "whole", "own"], (.cons (.set (.tup (.cons (.tup (.cons (.name 2) (.cons (.name 3) .nil))) (.cons (.name 4) .nil))) (.tup (.cons (.var 1) (.cons (.call 156 .nil) .nil)))) (.cons (.set (.name 5) (.lst false (.cons (.tup (.cons (.var 4) (.cons (.var 3) .nil))) (.cons (.tup (.cons (.bin .Sub false (.const (.int 0)) (.var 4)) (.cons (.var 3) .nil))) (.cons (.tup (.cons (.var 2) (.cons (.var 4) .nil))) (.cons (.tup (.cons (.var 2) (.cons (.bin .Sub false (.const (.int 0)) (.var 4)) .nil))) .nil)))))) (.cons (.set (.name 6) (.lst false (.cons (.const (.int 0)) (.cons (.neg (.const (.int 1))) (.cons (.bin .Sub false (.const (.int 0)) (.var 2)) (.cons (.bin .Add false (.bin .Pow false (.const (.int 10)) (.const (.int 30))) (.const (.int 1))) (.cons (.const (.bl true)) (.cons (.bi .str false (.cons (.var 2) .nil)) (.cons (.const .non) (.cons (.tup (.cons (.var 2) .nil)) (.cons (.lst false (.cons (.var 2) .nil)) (.cons (.bin .Pow false (.const (.int 10)) (.const (.int 60))) (.cons (.const (.dct [])) .nil))))))))))))) (.cons (.set (.name 5) (.bin .Add false (.var 5) (.comp false (.name 7) (.ex (.var 6)) .nil (.tup (.cons (.var 7) (.cons (.var 3) .nil))) [7]))) (.cons (.set (.name 5) (.bin .Add false (.var 5) (.comp false (.name 7) (.ex (.tup (.cons (.const (.int 0)) (.cons (.const (.int 3)) (.cons (.const (.int 5)) (.cons (.const (.int 12)) (.cons (.const (.int 63)) (.cons (.const (.int 128)) (.cons (.bin .Sub false (.const (.int 0)) (.var 3)) (.cons (.const (.bl true)) (.cons (.const (.bl false)) (.cons (.bi .str false (.cons (.var 3) .nil)) (.cons (.const .non) (.cons (.lst false (.cons (.var 3) .nil)) .nil)))))))))))))) .nil (.tup (.cons (.var 2) (.cons (.var 7) .nil))) [7]))) (.cons (.set (.name 5) (.bin .Add false (.var 5) (.lst false (.cons (.tup (.cons (.var 2) .nil)) (.cons (.tup (.cons (.var 2) (.cons (.var 3) (.cons (.const (.int 1)) .nil)))) (.cons (.lst false (.cons (.var 2) (.cons (.var 3) .nil))) (.cons (.tup .nil) (.cons (.const .non) (.cons (.var 2) (.cons (.const (.str "6/4")) (.cons (.bi .dct1 false (.cons (.var 2) (.cons (.var 3) .nil))) (.cons (.var 1) (.cons (.tup (.cons (.const (.int 1)) (.cons (.const (.int 64)) .nil))) .nil))))))))))))) (.cons (.ret (.call 3 (.cons (.var 0) (.cons (.bin .Add false (.var 5) (.lst false (.cons (.tup (.cons (.var 2) (.cons (.bin .Mult false (.const (.int 2)) (.bin .Pow false (.const (.int 10)) (.const (.int 30)))) .nil))) .nil))) .nil)))) .nil)))))))⟩
abbrev s_q_law_spoilt : Stmt := top 52
def d_q_law_spoilt : Def := ⟨.trim, 2, ["reel", "book", "lot", "at", "odd"], (.cons (.set (.tup (.cons (.name 2) (.cons (.name 3) .nil))) (.tup (.cons (.call 2 (.cons (.var 0) (.cons (.const (.int 7)) .nil))) (.cons (.call 2 (.cons (.var 0) (.cons (.bi .len false (.cons (.var 1) .nil)) .nil))) .nil)))) (.cons (.ite (.cmp .Eq (.var 2) (.const (.int 0))) (.cons (.set (.name 4) (.lst false (.cons (.bi .list false (.cons (.var 1) .nil)) (.cons (.tup .nil) (.cons (.const .non) (.cons (.bin .Mult false (.var 1) (.const (.int 7))) (.cons (.tup (.cons (.var 1) .nil)) (.cons (.ix (.var 1) (.const (.int 0))) (.cons (.const (.str "6/4 3/2")) (.cons (.const (.dct [])) (.cons (.const (.int 7)) (.cons (.const (.bl true)) (.cons (.bin .Add false (.var 1) (.bin .Mult false (.slice (.var 1) .no (.yes (.const (.int 1)))) (.const (.int 6)))) .nil))))))))))))) (.cons (.ret (.call 3 (.cons (.var 0) (.cons (.var 4) .nil)))) .nil)) .nil) (.cons (.ite (.cmp .Eq (.var 2) (.const (.int 1))) (.cons (.ret (.bin .Add false (.slice (.var 1) .no (.yes (.var 3))) (.slice (.var 1) (.yes (.bin .Add false (.var 3) (.const (.int 1)))) .no))) .nil) .nil) (.cons (.ret (.bin .Add false (.bin .Add false (.slice (.var 1) .no (.yes (.var 3))) (.tup (.cons (.call 157 (.cons (.var 0) (.cons (.ix (.var 1) (.var 3)) .nil))) .nil))) (.slice (.var 1) (.yes (.bin .Add false (.var 3) (.const (.int 1)))) .no))) .nil))))⟩
abbrev s_q_law_is_int : Stmt := top 45
def d_q_law_is_int : Def := ⟨.pure, 3, ["value", "low", "high"], (.cons (.ret (.andV (.bi .isint false (.cons (.var 0) .nil)) (.andV (.notV (.bi .isbool false (.cons (.var 0) .nil))) (.cmp2 .LtE .LtE (.var 1) (.var 0) (.var 2))))) .nil)⟩
abbrev s_q_law_is_kind : Stmt := top 48
def d_q_law_is_kind : Def := ⟨.pure, 1, ["value"], (.cons (.ite (.orV (.notV (.bi .istup false (.cons (.var 0) .nil))) (.orV (.cmp .NotEq (.bi .len false (.cons (.var 0) .nil)) (.const (.int 2))) (.notV (.call 159 (.cons (.ix (.var 0) (.const (.int 0))) (.cons (.const (.int 1)) (.cons (.bin .Pow false (.const (.int 10)) (.const (.int 30))) .nil))))))) (.cons (.ret (.const (.bl false))) .nil) .nil) (.cons (.ret (.andV (.call 159 (.cons (.ix (.var 0) (.const (.int 1))) (.cons (.const (.int 1)) (.cons (.const (.int 64)) .nil)))) (.cmp .In (.ix (.var 0) (.const (.int 1))) (.tup (.cons (.const (.int 1)) (.cons (.const (.int 2)) (.cons (.const (.int 4)) (.cons (.const (.int 8)) (.cons (.const (.int 16)) (.cons (.const (.int 32)) (.cons (.const (.int 64)) .nil))))))))))) .nil))⟩
abbrev s_q_law_fault : Stmt := top 49
def d_q_law_fault : Def := ⟨.pure, 1, ["value", "place", "kind"], (.cons (.ite (.orV (.notV (.bi .istup false (.cons (.var 0) .nil))) (.orV (.cmp .Lt (.bi .len false (.cons (.var 0) .nil)) (.const (.int 1))) (.cmp .Gt (.bi .len false (.cons (.var 0) .nil)) (.const (.int 6))))) (.cons (.ret (.const (.str "form"))) .nil) .nil) (.cons (.for (.tup (.cons (.name 1) (.cons (.name 2) .nil))) (.enum (.ex (.var 0))) (.cons (.ite (.notV (.call 160 (.cons (.var 2) .nil))) (.cons (.ret (.tup (.cons (.const (.str "kind")) (.cons (.var 1) .nil)))) .nil) .nil) .nil)) (.cons (.ret (.const .non)) .nil)))⟩
abbrev s_q_law_is_told : Stmt := top 53
def d_q_law_is_told : Def := ⟨.pure, 2, ["value", "is_named", "shown", "due", "told"], (.cons (.set (.tup (.cons (.name 2) (.cons (.name 3) .nil))) (.tup (.cons (.bi .reprV false (.cons (.var 0) .nil)) (.cons (.call 161 (.cons (.var 0) .nil)) .nil)))) (.cons (.set (.name 4) (.lst false (.cons (.ife (.var 1) (.callK 89 [0] (.cons (.var 0) .nil)) (.call 89 (.cons (.var 0) .nil))) (.cons (.call 89 (.cons (.var 0) .nil)) .nil)))) (.cons (.ret (.andV (.cmp .Eq (.bi .repr false (.cons (.var 4) .nil)) (.bi .repr false (.cons (.lst false (.cons (.var 3) (.cons (.var 3) .nil))) .nil))) (.cmp .Eq (.bi .reprV false (.cons (.var 0) .nil)) (.var 2)))) .nil)))⟩
abbrev s_law : Stmt := top 54
def d_law : Def := ⟨.pure, 1, ["script", "reel", "turn", "book", "values", "other", "two", "value", "ends", "things", "told", "own", "nth", "at", "kind"], (.cons (.set (.name 1) (.call 1 (.cons (.var 0) .nil))) (.cons (.for (.name 2) (.range1 (.const (.int 8))) (.cons (.set (.name 3) (.call 5 (.cons (.var 1) (.cons (.bin .Add false (.const (.int 1)) (.call 2 (.cons (.var 1) (.cons (.const (.int 6)) .nil)))) .nil)))) (.cons (.set (.name 4) (.bin .Add true (.lst false (.cons (.var 3) .nil)) (.comp false (.name 12) (.range1 (.const (.int 5))) .nil (.call 158 (.cons (.var 1) (.cons (.var 3) .nil))) [12]))) (.cons (.set (.name 5) (.call 5 (.cons (.var 1) (.cons (.const (.int 6)) .nil)))) (.cons (.set (.name 6) (.slice (.call 18 (.cons (.var 1) (.cons (.lrng false (.range1 (.const (.int 6)))) .nil))) .no (.yes (.const (.int 2))))) (.cons (.expr (.me .append (.var 4) (.cons (.bi .tuple false (.cons (.comp false (.tup (.cons (.name 13) (.cons (.name 14) .nil))) (.enum (.ex (.var 5))) .nil (.ife (.cmp .In (.var 13) (.var 6)) (.call 157 (.cons (.var 1) (.cons (.var 14) .nil))) (.var 14)) [13, 14]) .nil)) .nil))) (.cons (.for (.name 7) (.ex (.var 4)) (.cons (.ite (.notV (.call 162 (.cons (.var 7) (.cons (.cmp .Eq (.bin .Mod false (.var 2) (.const (.int 3))) (.const (.int 1))) .nil)))) (.cons (.ret (.const (.bl false))) .nil) .nil) .nil)) .nil))))))) (.cons (.set (.name 8) (.lst false (.cons (.bin .Mult false (.tup (.cons (.tup (.cons (.bin .Pow false (.const (.int 10)) (.const (.int 30))) (.cons (.const (.int 64)) .nil))) .nil)) (.const (.int 6))) (.cons (.bin .Mult false (.tup (.cons (.tup (.cons (.bin .Pow false (.const (.int 10)) (.const (.int 30))) (.cons (.const (.int 64)) .nil))) .nil)) (.const (.int 7))) (.cons (.tup (.cons (.tup (.cons (.const (.int 1)) (.cons (.const (.int 1)) .nil))) .nil)) (.cons (.tup (.cons (.tup (.cons (.bin .Add false (.bin .Pow false (.const (.int 10)) (.const (.int 30))) (.const (.int 1))) (.cons (.const (.int 64)) .nil))) .nil)) (.cons (.bin .Add false (.tup (.cons (.const .non) .nil)) (.bin .Mult false (.tup (.cons (.tup (.cons (.const (.int 1)) (.cons (.const (.int 1)) .nil))) .nil)) (.const (.int 6)))) .nil))))))) (.cons (.ite (.cmp .NotEq (.comp false (.name 7) (.ex (.var 8)) (.cons (.notV (.call 162 (.cons (.var 7) (.cons (.const (.bl false)) .nil)))) .nil) (.var 7) [7]) (.lst false .nil)) (.cons (.ret (.const (.bl false))) .nil) .nil) (.cons (.set (.name 9) (.lst false (.cons (.bi .opq0 false .nil) (.cons (.call 9001 (.cons (.tup (.cons (.tup (.cons (.const (.int 4)) (.cons (.const (.int 4)) .nil))) (.cons (.tup (.cons (.const (.int 1)) (.cons (.const (.int 1)) .nil))) .nil))) .nil)) .nil)))) (.cons (.set (.name 10) (.lst true .nil)) (.cons (.for (.name 11) (.ex (.var 9)) (.cons (.expr (.me .append (.var 10) (.cons (.lst false (.cons (.call 89 (.cons (.var 11) .nil)) (.cons (.call 89 (.cons (.tup (.cons (.tup (.cons (.const (.int 1)) (.cons (.const (.int 1)) .nil))) (.cons (.var 11) .nil))) .nil)) (.cons (.call 89 (.cons (.tup (.cons (.tup (.cons (.var 11) (.cons (.const (.int 1)) .nil))) .nil)) .nil)) (.cons (.call 89 (.cons (.tup (.cons (.tup (.cons (.const (.int 6)) (.cons (.var 11) .nil))) .nil)) .nil)) .nil))))) .nil))) .nil)) (.cons (.ret (.cmp .Eq (.bi .repr false (.cons (.var 10) .nil)) (.bi .repr false (.cons (.bin .Mult false (.lst false (.cons (.lst false (.cons (.const (.str "form")) (.cons (.tup (.cons (.const (.str "kind")) (.cons (.const (.int 1)) .nil))) (.cons (.tup (.cons (.const (.str "kind")) (.cons (.const (.int 0)) .nil))) (.cons (.tup (.cons (.const (.str "kind")) (.cons (.const (.int 0)) .nil))) .nil))))) .nil)) (.const (.int 2))) .nil)))) .nil))))))))⟩
def tbl : List (Nat × Def) := [(1, d_q_law_reel), (2, d_q_law_draw), (3, d_q_law_pick), (4, d_q_law_size), (5, d_q_law_book), (83, d_is_tuple), (84, d_is_integer), (85, d_is_within), (86, d_is_size), (87, d_is_alignment), (88, d_is_kind), (89, d_book_error), (18, d_q_law_mixed), (156, d_q_law_far), (157, d_q_law_odd_kind), (158, d_q_law_spoilt), (159, d_q_law_is_int), (160, d_q_law_is_kind), (161, d_q_law_fault), (162, d_q_law_is_told), (163, d_law), (9000, dInit 89), (9001, dMake 9000)]
abbrev s_Desk : Stmt := match top 39 with | .ClassDef _ _ _ b _ _ _ _ _ _ _ => b.getD 0 (.Pass ⟨0, 0, 0, 0⟩) | s => s
section
variable {P : Program} {w : World} {K : PySem.W.Frag} {mg : Str → Option Value} {base : Heap}
theorem S_q_law_reel : FnScope ["script", "cells", "stamp", "own", "deep"] ["script"] (defScope s_q_law_reel) := C8.fnScope_by (by decide +kernel)
theorem b_q_law_reel {k : Nat} {φ : Fn}  (m_len : mg "len" = none) (m_int : mg "int" = none)   (f : Addr) (cdv : Value) (A : Around) (outer : List Env) (s : Shared) (H : Hp) (hgd : A.guards = some []) (hr : Room k (A.deeper (envOfC "_law_reel" (defScope s_q_law_reel) s.heap.objs.size f cdv))) :
    SB (Xb P w K mg base ["script", "cells", "stamp", "own", "deep"] "_law_reel" (defScope s_q_law_reel) f cdv A outer s H) (EK.none K) (defBody s_q_law_reel) (exB φ d_q_law_reel.body) := by
  have nd : (["script", "cells", "stamp", "own", "deep"] : List Str).Nodup := by decide +kernel
  refine FF.w_cons ?_ ?_
  refine FF.w_par rfl (by assumption) (by rfl) (by rfl) (by decide) (by rfl) (by rfl) ?_ (by rfl) (by rfl)
  refine FF.w_acons ?_ ?_ (by rfl)
  refine FF.w_comp rfl (by assumption) ?_ (by kernel_rfl) (fun _ _ _ _ _ => ?_) (fun _ _ _ _ _ => ?_) (fun _ _ _ _ _ => ?_) (by intro _; rfl) (by decide)
  refine FF.w_iex ?_
  refine FF.w_slice ?_ ?_ ?_
  exact FF.w_var rfl (by first | exact .inl rfl | exact .inr (.inl rfl) | exact .inr (.inr rfl)) (by decide) (by decide)
  exact FF.w_no
  refine FF.w_yes ?_
  exact FF.w_int
  exact FF.sg_name (by assumption) rfl (by first | exact .inl rfl | exact .inr rfl) (by first | exact .inl rfl | exact .inr rfl)
  exact FF.w_ifs0
  refine FF.w_if ?_ ?_ ?_
  refine FF.w_tcmp (by exact FF.un_of ‹Room _ _› (by decide)) ?_ ?_ (by rfl)
  exact FF.w_var rfl (by first | exact .inl rfl | exact .inr (.inl rfl) | exact .inr (.inr rfl)) (by decide) (by decide)
  exact FF.w_int
  refine FF.w_bin ?_ ?_
  exact FF.w_int
  exact FF.w_var rfl (by first | exact .inl rfl | exact .inr (.inl rfl) | exact .inr (.inr rfl)) (by decide) (by decide)
  refine FF.w_bin ?_ ?_
  refine FF.w_bin ?_ ?_
  refine FF.w_neg ?_
  exact FF.w_int
  exact FF.w_var rfl (by first | exact .inl rfl | exact .inr (.inl rfl) | exact .inr (.inr rfl)) (by decide) (by decide)
  exact FF.w_int
  refine FF.w_acons ?_ ?_ (by rfl)
  refine FF.w_bin ?_ ?_
  refine FF.w_cb FF.cb_len (by rfl) (by assumption) PySem.boot_len ?_ (by decide) (by decide) (by rfl) (by rfl)
  refine FF.w_acons ?_ ?_ (by rfl)
  exact FF.w_var rfl (by first | exact .inl rfl | exact .inr (.inl rfl) | exact .inr (.inr rfl)) (by decide) (by decide)
  exact FF.w_anil
  exact FF.w_int
  exact FF.w_anil
  refine FF.w_cons ?_ ?_
  refine FF.w_for rfl PassesOwn.never ?_ ?_ ?_ (by intro _; rfl)
  refine FF.w_iex ?_
  exact FF.w_var rfl (by first | exact .inl rfl | exact .inr (.inl rfl) | exact .inr (.inr rfl)) (by decide) (by decide)
  exact FF.sg_name (by assumption) rfl (by first | exact .inl rfl | exact .inr rfl) (by first | exact .inl rfl | exact .inr rfl)
  refine FF.w_cons ?_ ?_
  refine FF.w_asg ?_ ?_ (by rfl) (by rfl) (by rfl)
  refine FF.w_bin ?_ ?_
  refine FF.w_ct FF.cb_int (by rfl) (by assumption) PyProof.Rows.boot_int ?_ (by decide) (by decide) (by rfl) (by rfl)
  refine FF.w_acons ?_ ?_ (by rfl)
  refine FF.w_bin ?_ ?_
  refine FF.w_bin ?_ ?_
  refine FF.w_bin ?_ ?_
  exact FF.w_var rfl (by first | exact .inl rfl | exact .inr (.inl rfl) | exact .inr (.inr rfl)) (by decide) (by decide)
  exact FF.w_int
  refine FF.w_bin ?_ ?_
  exact FF.w_var rfl (by first | exact .inl rfl | exact .inr (.inl rfl) | exact .inr (.inr rfl)) (by decide) (by decide)
  exact FF.w_int
  exact FF.w_int
  exact FF.w_anil
  exact FF.w_int
  exact FF.sg_name (by assumption) rfl (by first | exact .inl rfl | exact .inr rfl) (by first | exact .inl rfl | exact .inr rfl)
  exact FF.w_nil
  refine FF.w_cons ?_ ?_
  refine FF.w_setLc rfl (by assumption) (by rfl) (by rfl) (by rfl) ?_ (by kernel_rfl) (fun _ _ _ _ _ => ?_) (fun _ _ _ _ _ => ?_) (fun _ _ _ _ _ => ?_) (by intro _; rfl) (by decide)
  refine FF.w_iex ?_
  exact FF.w_var rfl (by first | exact .inl rfl | exact .inr (.inl rfl) | exact .inr (.inr rfl)) (by decide) (by decide)
  exact FF.sg_name (by assumption) rfl (by first | exact .inl rfl | exact .inr rfl) (by first | exact .inl rfl | exact .inr rfl)
  refine FF.w_ifs1 ?_
  refine FF.w_tcmp (by exact FF.un_of ‹Room _ _› (by decide)) ?_ ?_ (by rfl)
  exact FF.w_var rfl (by first | exact .inl rfl | exact .inr (.inl rfl) | exact .inr (.inr rfl)) (by decide) (by decide)
  refine FF.w_bin ?_ ?_
  exact FF.w_int
  exact FF.w_int
  exact FF.w_var rfl (by first | exact .inl rfl | exact .inr (.inl rfl) | exact .inr (.inr rfl)) (by decide) (by decide)
  refine FF.w_cons ?_ ?_
  refine FF.w_ret ?_
  refine FF.w_dct ?_ (by rfl) (by rfl) (by rfl) (by simp) (by decide)
  refine FF.w_pcons ?_ ?_ ?_
  exact FF.w_str
  exact FF.w_var rfl (by first | exact .inl rfl | exact .inr (.inl rfl) | exact .inr (.inr rfl)) (by decide) (by decide)
  refine FF.w_pcons ?_ ?_ ?_
  exact FF.w_str
  refine FF.w_bin ?_ ?_
  exact FF.w_var rfl (by first | exact .inl rfl | exact .inr (.inl rfl) | exact .inr (.inr rfl)) (by decide) (by decide)
  refine FF.w_lst ?_
  refine FF.w_acons ?_ ?_ (by rfl)
  refine FF.w_bin ?_ ?_
  refine FF.w_bin ?_ ?_
  exact FF.w_int
  refine FF.w_cb FF.cb_len (by rfl) (by assumption) PySem.boot_len ?_ (by decide) (by decide) (by rfl) (by rfl)
  refine FF.w_acons ?_ ?_ (by rfl)
  exact FF.w_var rfl (by first | exact .inl rfl | exact .inr (.inl rfl) | exact .inr (.inr rfl)) (by decide) (by decide)
  exact FF.w_anil
  exact FF.w_int
  exact FF.w_anil
  refine FF.w_pcons ?_ ?_ ?_
  exact FF.w_str
  exact FF.w_var rfl (by first | exact .inl rfl | exact .inr (.inl rfl) | exact .inr (.inr rfl)) (by decide) (by decide)
  refine FF.w_pcons ?_ ?_ ?_
  exact FF.w_str
  exact FF.w_int
  exact FF.w_pnil
  exact FF.w_nil
theorem S_q_law_draw : FnScope ["reel", "many", "deep", "own", "count", "cells", "mixed", "turn"] ["reel", "many"] (defScope s_q_law_draw) := C8.fnScope_by (by decide +kernel)
theorem b_q_law_draw {k : Nat} {φ : Fn}  (m_range : mg "range" = none) (m_int : mg "int" = none) (m_len : mg "len" = none)   (f : Addr) (cdv : Value) (A : Around) (outer : List Env) (s : Shared) (H : Hp) (hgd : A.guards = some []) (hr : Room k (A.deeper (envOfC "_law_draw" (defScope s_q_law_draw) s.heap.objs.size f cdv))) :
    SB (Xb P w K mg base ["reel", "many", "deep", "own", "count", "cells", "mixed", "turn"] "_law_draw" (defScope s_q_law_draw) f cdv A outer s H) (EK.none K) (defBody s_q_law_draw) (exB φ d_q_law_draw.body) := by
  have nd : (["reel", "many", "deep", "own", "count", "cells", "mixed", "turn"] : List Str).Nodup := by decide +kernel
  refine FF.w_cons ?_ ?_
  refine FF.w_asg ?_ ?_ (by rfl) (by rfl) (by rfl)
  refine FF.w_ix (by exact FF.un_of ‹Room _ _› (by decide)) ?_ ?_ (fun _ _ => rfl)
  exact FF.w_var rfl (by first | exact .inl rfl | exact .inr (.inl rfl) | exact .inr (.inr rfl)) (by decide) (by decide)
  exact FF.w_str
  exact FF.sg_name (by assumption) rfl (by first | exact .inl rfl | exact .inr rfl) (by first | exact .inl rfl | exact .inr rfl)
  refine FF.w_cons ?_ ?_
  refine FF.w_ite ?_ ?_ ?_
  refine FF.w_tbool ?_
  refine FF.w_twand ?_ ?_
  refine FF.w_tcmp (by exact FF.un_of ‹Room _ _› (by decide)) ?_ ?_ (by rfl)
  exact FF.w_var rfl (by first | exact .inl rfl | exact .inr (.inl rfl) | exact .inr (.inr rfl)) (by decide) (by decide)
  refine FF.w_lst ?_
  exact FF.w_anil
  refine FF.w_tone_and ?_
  refine FF.w_tcmp (by exact FF.un_of ‹Room _ _› (by decide)) ?_ ?_ (by rfl)
  exact FF.w_var rfl (by first | exact .inl rfl | exact .inr (.inl rfl) | exact .inr (.inr rfl)) (by decide) (by decide)
  exact FF.w_int
  refine FF.w_cons ?_ ?_
  refine FF.w_asg ?_ ?_ (by rfl) (by rfl) (by rfl)
  refine FF.w_bm0 PySem.F.slot_list_pop PySem.F.type_list_pop FF.mt_popD FF.fit_pop (fun _ _ _ => rfl) ?_ (by rfl) (by rfl)
  exact FF.w_var rfl (by first | exact .inl rfl | exact .inr (.inl rfl) | exact .inr (.inr rfl)) (by decide) (by decide)
  exact FF.sg_name (by assumption) rfl (by first | exact .inl rfl | exact .inr rfl) (by first | exact .inl rfl | exact .inr rfl)
  refine FF.w_cons ?_ ?_
  refine FF.w_ite ?_ ?_ ?_
  refine FF.w_tcmp (by exact FF.un_of ‹Room _ _› (by decide)) ?_ ?_ (by rfl)
  exact FF.w_var rfl (by first | exact .inl rfl | exact .inr (.inl rfl) | exact .inr (.inr rfl)) (by decide) (by decide)
  exact FF.w_var rfl (by first | exact .inl rfl | exact .inr (.inl rfl) | exact .inr (.inr rfl)) (by decide) (by decide)
  refine FF.w_cons ?_ ?_
  refine FF.w_expr ?_ (by rfl)
  refine FF.w_bm PySem.F.slot_list_append PySem.F.type_list_append FF.mt_appendD FF.fit_append (fun _ _ _ => rfl) ?_ ?_ (by rfl) (by rfl) (by rfl) (by rfl) (by rfl)
  exact FF.w_var rfl (by first | exact .inl rfl | exact .inr (.inl rfl) | exact .inr (.inr rfl)) (by decide) (by decide)
  refine FF.w_acons ?_ ?_ (by rfl)
  refine FF.w_bin ?_ ?_
  exact FF.w_var rfl (by first | exact .inl rfl | exact .inr (.inl rfl) | exact .inr (.inr rfl)) (by decide) (by decide)
  exact FF.w_var rfl (by first | exact .inl rfl | exact .inr (.inl rfl) | exact .inr (.inr rfl)) (by decide) (by decide)
  exact FF.w_anil
  exact FF.w_nil
  exact FF.w_nil
  refine FF.w_cons ?_ ?_
  refine FF.w_ret ?_
  refine FF.w_bin ?_ ?_
  refine FF.w_ct FF.cb_int (by rfl) (by assumption) PyProof.Rows.boot_int ?_ (by decide) (by decide) (by rfl) (by rfl)
  refine FF.w_acons ?_ ?_ (by rfl)
  exact FF.w_var rfl (by first | exact .inl rfl | exact .inr (.inl rfl) | exact .inr (.inr rfl)) (by decide) (by decide)
  exact FF.w_anil
  exact FF.w_var rfl (by first | exact .inl rfl | exact .inr (.inl rfl) | exact .inr (.inr rfl)) (by decide) (by decide)
  exact FF.w_nil
  exact FF.w_nil
  refine FF.w_cons ?_ ?_
  refine FF.w_setIx (by exact FF.un_of ‹Room _ _› (by decide)) ?_ ?_ ?_ (by rfl) (by rfl) (by rfl) (by intro _; rfl)
  refine FF.w_bin ?_ ?_
  refine FF.w_ix (by exact FF.un_of ‹Room _ _› (by decide)) ?_ ?_ (fun _ _ => rfl)
  exact FF.w_var rfl (by first | exact .inl rfl | exact .inr (.inl rfl) | exact .inr (.inr rfl)) (by decide) (by decide)
  exact FF.w_str
  exact FF.w_int
  exact FF.w_var rfl (by first | exact .inl rfl | exact .inr (.inl rfl) | exact .inr (.inr rfl)) (by decide) (by decide)
  exact FF.w_str
  refine FF.w_cons ?_ ?_
  refine FF.w_par rfl (by assumption) (by rfl) (by rfl) (by decide) (by rfl) (by rfl) ?_ (by rfl) (by rfl)
  refine FF.w_acons ?_ ?_ (by rfl)
  refine FF.w_ix (by exact FF.un_of ‹Room _ _› (by decide)) ?_ ?_ (fun _ _ => rfl)
  exact FF.w_var rfl (by first | exact .inl rfl | exact .inr (.inl rfl) | exact .inr (.inr rfl)) (by decide) (by decide)
  exact FF.w_str
  refine FF.w_acons ?_ ?_ (by rfl)
  refine FF.w_ix (by exact FF.un_of ‹Room _ _› (by decide)) ?_ ?_ (fun _ _ => rfl)
  exact FF.w_var rfl (by first | exact .inl rfl | exact .inr (.inl rfl) | exact .inr (.inr rfl)) (by decide) (by decide)
  exact FF.w_str
  exact FF.w_anil
  refine FF.w_cons ?_ ?_
  refine FF.w_asg ?_ ?_ (by rfl) (by rfl) (by rfl)
  refine FF.w_bin ?_ ?_
  refine FF.w_ct FF.cb_int (by rfl) (by assumption) PyProof.Rows.boot_int ?_ (by decide) (by decide) (by rfl) (by rfl)
  refine FF.w_acons ?_ ?_ (by rfl)
  refine FF.w_bin ?_ ?_
  refine FF.w_bin ?_ ?_
  refine FF.w_bin ?_ ?_
  refine FF.w_ix (by exact FF.un_of ‹Room _ _› (by decide)) ?_ ?_ (fun _ _ => rfl)
  exact FF.w_var rfl (by first | exact .inl rfl | exact .inr (.inl rfl) | exact .inr (.inr rfl)) (by decide) (by decide)
  refine FF.w_bin ?_ ?_
  refine FF.w_ct FF.cb_int (by rfl) (by assumption) PyProof.Rows.boot_int ?_ (by decide) (by decide) (by rfl) (by rfl)
  refine FF.w_acons ?_ ?_ (by rfl)
  refine FF.w_bin ?_ ?_
  exact FF.w_var rfl (by first | exact .inl rfl | exact .inr (.inl rfl) | exact .inr (.inr rfl)) (by decide) (by decide)
  exact FF.w_int
  exact FF.w_anil
  refine FF.w_cb FF.cb_len (by rfl) (by assumption) PySem.boot_len ?_ (by decide) (by decide) (by rfl) (by rfl)
  refine FF.w_acons ?_ ?_ (by rfl)
  exact FF.w_var rfl (by first | exact .inl rfl | exact .inr (.inl rfl) | exact .inr (.inr rfl)) (by decide) (by decide)
  exact FF.w_anil
  exact FF.w_int
  refine FF.w_ix (by exact FF.un_of ‹Room _ _› (by decide)) ?_ ?_ (fun _ _ => rfl)
  exact FF.w_var rfl (by first | exact .inl rfl | exact .inr (.inl rfl) | exact .inr (.inr rfl)) (by decide) (by decide)
  exact FF.w_str
  refine FF.w_bin ?_ ?_
  exact FF.w_var rfl (by first | exact .inl rfl | exact .inr (.inl rfl) | exact .inr (.inr rfl)) (by decide) (by decide)
  exact FF.w_int
  exact FF.w_anil
  exact FF.w_int
  exact FF.sg_name (by assumption) rfl (by first | exact .inl rfl | exact .inr rfl) (by first | exact .inl rfl | exact .inr rfl)
  refine FF.w_cons ?_ ?_
  refine FF.w_for rfl PassesOwn.never ?_ ?_ ?_ (by intro _; rfl)
  refine FF.w_range1 (by rfl) (by assumption) ?_ (by rfl)
  exact FF.w_int
  exact FF.sg_name (by assumption) rfl (by first | exact .inl rfl | exact .inr rfl) (by first | exact .inl rfl | exact .inr rfl)
  refine FF.w_cons ?_ ?_
  refine FF.w_asg ?_ ?_ (by rfl) (by rfl) (by rfl)
  refine FF.w_bin ?_ ?_
  refine FF.w_ct FF.cb_int (by rfl) (by assumption) PyProof.Rows.boot_int ?_ (by decide) (by decide) (by rfl) (by rfl)
  refine FF.w_acons ?_ ?_ (by rfl)
  refine FF.w_bin ?_ ?_
  refine FF.w_bin ?_ ?_
  exact FF.w_var rfl (by first | exact .inl rfl | exact .inr (.inl rfl) | exact .inr (.inr rfl)) (by decide) (by decide)
  exact FF.w_var rfl (by first | exact .inl rfl | exact .inr (.inl rfl) | exact .inr (.inr rfl)) (by decide) (by decide)
  refine FF.w_bin ?_ ?_
  refine FF.w_ix (by exact FF.un_of ‹Room _ _› (by decide)) ?_ ?_ (fun _ _ => rfl)
  exact FF.w_var rfl (by first | exact .inl rfl | exact .inr (.inl rfl) | exact .inr (.inr rfl)) (by decide) (by decide)
  exact FF.w_str
  refine FF.w_bin ?_ ?_
  exact FF.w_var rfl (by first | exact .inl rfl | exact .inr (.inl rfl) | exact .inr (.inr rfl)) (by decide) (by decide)
  exact FF.w_var rfl (by first | exact .inl rfl | exact .inr (.inl rfl) | exact .inr (.inr rfl)) (by decide) (by decide)
  exact FF.w_anil
  exact FF.w_int
  exact FF.sg_name (by assumption) rfl (by first | exact .inl rfl | exact .inr rfl) (by first | exact .inl rfl | exact .inr rfl)
  exact FF.w_nil
  refine FF.w_cons ?_ ?_
  refine FF.w_ret ?_
  refine FF.w_bin ?_ ?_
  refine FF.w_ct FF.cb_int (by rfl) (by assumption) PyProof.Rows.boot_int ?_ (by decide) (by decide) (by rfl) (by rfl)
  refine FF.w_acons ?_ ?_ (by rfl)
  refine FF.w_bin ?_ ?_
  exact FF.w_var rfl (by first | exact .inl rfl | exact .inr (.inl rfl) | exact .inr (.inr rfl)) (by decide) (by decide)
  exact FF.w_int
  exact FF.w_anil
  exact FF.w_var rfl (by first | exact .inl rfl | exact .inr (.inl rfl) | exact .inr (.inr rfl)) (by decide) (by decide)
  exact FF.w_nil
theorem S_q_law_pick : FnScope ["reel", "things"] ["reel", "things"] (defScope s_q_law_pick) := C8.fnScope_by (by decide +kernel)
theorem b_q_law_pick {k : Nat} {φ : Fn} (C_q_law_draw : Cal P w K mg base k (φ 2) s_q_law_draw "_law_draw" ["reel", "many"]) (m_len : mg "len" = none)   (f : Addr) (cdv : Value) (A : Around) (outer : List Env) (s : Shared) (H : Hp) (hgd : A.guards = some []) (hr : Room k (A.deeper (envOfC "_law_pick" (defScope s_q_law_pick) s.heap.objs.size f cdv))) :
    SB (Xb P w K mg base ["reel", "things"] "_law_pick" (defScope s_q_law_pick) f cdv A outer s H) (EK.none K) (defBody s_q_law_pick) (exB φ d_q_law_pick.body) := by
  have nd : (["reel", "things"] : List Str).Nodup := by decide +kernel
  refine FF.w_cons ?_ ?_
  refine FF.w_ret ?_
  refine FF.w_ix (by exact FF.un_of ‹Room _ _› (by decide)) ?_ ?_ (fun _ _ => rfl)
  exact FF.w_var rfl (by first | exact .inl rfl | exact .inr (.inl rfl) | exact .inr (.inr rfl)) (by decide) (by decide)
  refine FF.w_call (by assumption) (by assumption) (by assumption) (by rfl) (by intro _ _ _ _ _ _; exact FF.ar2 (fun _ _ => rfl)) ?_ (by decide) (by rfl) (by rfl)
  refine FF.w_acons ?_ ?_ (by rfl)
  exact FF.w_var rfl (by first | exact .inl rfl | exact .inr (.inl rfl) | exact .inr (.inr rfl)) (by decide) (by decide)
  refine FF.w_acons ?_ ?_ (by rfl)
  refine FF.w_cb FF.cb_len (by rfl) (by assumption) PySem.boot_len ?_ (by decide) (by decide) (by rfl) (by rfl)
  refine FF.w_acons ?_ ?_ (by rfl)
  exact FF.w_var rfl (by first | exact .inl rfl | exact .inr (.inl rfl) | exact .inr (.inr rfl)) (by decide) (by decide)
  exact FF.w_anil
  exact FF.w_anil
  exact FF.w_nil
theorem S_q_law_size : FnScope ["reel", "step", "near", "lot", "far", "off"] ["reel", "step"] (defScope s_q_law_size) := C8.fnScope_by (by decide +kernel)
theorem b_q_law_size {k : Nat} {φ : Fn} (C_q_law_draw : Cal P w K mg base k (φ 2) s_q_law_draw "_law_draw" ["reel", "many"]) (C_q_law_pick : Cal P w K mg base k (φ 3) s_q_law_pick "_law_pick" ["reel", "things"]) (m_min : mg "min" = none) (m_max : mg "max" = none)   (f : Addr) (cdv : Value) (A : Around) (outer : List Env) (s : Shared) (H : Hp) (hgd : A.guards = some []) (hr : Room k (A.deeper (envOfC "_law_size" (defScope s_q_law_size) s.heap.objs.size f cdv))) :
    SB (Xb P w K mg base ["reel", "step", "near", "lot", "far", "off"] "_law_size" (defScope s_q_law_size) f cdv A outer s H) (EK.none K) (defBody s_q_law_size) (exB φ d_q_law_size.body) := by
  have nd : (["reel", "step", "near", "lot", "far", "off"] : List Str).Nodup := by decide +kernel
  refine FF.w_cons ?_ ?_
  refine FF.w_par rfl (by assumption) (by rfl) (by rfl) (by decide) (by rfl) (by rfl) ?_ (by rfl) (by rfl)
  refine FF.w_acons ?_ ?_ (by rfl)
  refine FF.w_bin ?_ ?_
  exact FF.w_var rfl (by first | exact .inl rfl | exact .inr (.inl rfl) | exact .inr (.inr rfl)) (by decide) (by decide)
  refine FF.w_bin ?_ ?_
  exact FF.w_int
  refine FF.w_call (by assumption) (by assumption) (by assumption) (by rfl) (by intro _ _ _ _ _ _; exact FF.ar2 (fun _ _ => rfl)) ?_ (by decide) (by rfl) (by rfl)
  refine FF.w_acons ?_ ?_ (by rfl)
  exact FF.w_var rfl (by first | exact .inl rfl | exact .inr (.inl rfl) | exact .inr (.inr rfl)) (by decide) (by decide)
  refine FF.w_acons ?_ ?_ (by rfl)
  exact FF.w_int
  exact FF.w_anil
  refine FF.w_acons ?_ ?_ (by rfl)
  refine FF.w_call (by assumption) (by assumption) (by assumption) (by rfl) (by intro _ _ _ _ _ _; exact FF.ar2 (fun _ _ => rfl)) ?_ (by decide) (by rfl) (by rfl)
  refine FF.w_acons ?_ ?_ (by rfl)
  exact FF.w_var rfl (by first | exact .inl rfl | exact .inr (.inl rfl) | exact .inr (.inr rfl)) (by decide) (by decide)
  refine FF.w_acons ?_ ?_ (by rfl)
  exact FF.w_int
  exact FF.w_anil
  exact FF.w_anil
  refine FF.w_cons ?_ ?_
  refine FF.w_ite ?_ ?_ ?_
  refine FF.w_tcmp (by exact FF.un_of ‹Room _ _› (by decide)) ?_ ?_ (by rfl)
  exact FF.w_var rfl (by first | exact .inl rfl | exact .inr (.inl rfl) | exact .inr (.inr rfl)) (by decide) (by decide)
  exact FF.w_int
  refine FF.w_cons ?_ ?_
  refine FF.w_ret ?_
  exact FF.w_var rfl (by first | exact .inl rfl | exact .inr (.inl rfl) | exact .inr (.inr rfl)) (by decide) (by decide)
  exact FF.w_nil
  exact FF.w_nil
  refine FF.w_cons ?_ ?_
  refine FF.w_ite ?_ ?_ ?_
  refine FF.w_tcmp (by exact FF.un_of ‹Room _ _› (by decide)) ?_ ?_ (by rfl)
  exact FF.w_var rfl (by first | exact .inl rfl | exact .inr (.inl rfl) | exact .inr (.inr rfl)) (by decide) (by decide)
  exact FF.w_int
  refine FF.w_cons ?_ ?_
  refine FF.w_ret ?_
  refine FF.w_cb (FF.cb_max2 rfl) (by rfl) (by assumption) PyProof.Rows.boot_max ?_ (by decide) (by decide) (by rfl) (by rfl)
  refine FF.w_acons ?_ ?_ (by rfl)
  exact FF.w_int
  refine FF.w_acons ?_ ?_ (by rfl)
  refine FF.w_bin ?_ ?_
  exact FF.w_var rfl (by first | exact .inl rfl | exact .inr (.inl rfl) | exact .inr (.inr rfl)) (by decide) (by decide)
  refine FF.w_call (by assumption) (by assumption) (by assumption) (by rfl) (by intro _ _ _ _ _ _; exact FF.ar2 (fun _ _ => rfl)) ?_ (by decide) (by rfl) (by rfl)
  refine FF.w_acons ?_ ?_ (by rfl)
  exact FF.w_var rfl (by first | exact .inl rfl | exact .inr (.inl rfl) | exact .inr (.inr rfl)) (by decide) (by decide)
  refine FF.w_acons ?_ ?_ (by rfl)
  refine FF.w_lst ?_
  refine FF.w_acons ?_ ?_ (by rfl)
  refine FF.w_neg ?_
  exact FF.w_int
  refine FF.w_acons ?_ ?_ (by rfl)
  exact FF.w_int
  refine FF.w_acons ?_ ?_ (by rfl)
  refine FF.w_neg ?_
  exact FF.w_int
  refine FF.w_acons ?_ ?_ (by rfl)
  exact FF.w_int
  exact FF.w_anil
  exact FF.w_anil
  exact FF.w_anil
  exact FF.w_nil
  exact FF.w_nil
  refine FF.w_cons ?_ ?_
  refine FF.w_ite ?_ ?_ ?_
  refine FF.w_tcmp (by exact FF.un_of ‹Room _ _› (by decide)) ?_ ?_ (by rfl)
  exact FF.w_var rfl (by first | exact .inl rfl | exact .inr (.inl rfl) | exact .inr (.inr rfl)) (by decide) (by decide)
  exact FF.w_int
  refine FF.w_cons ?_ ?_
  refine FF.w_ret ?_
  refine FF.w_bin ?_ ?_
  exact FF.w_int
  refine FF.w_call (by assumption) (by assumption) (by assumption) (by rfl) (by intro _ _ _ _ _ _; exact FF.ar2 (fun _ _ => rfl)) ?_ (by decide) (by rfl) (by rfl)
  refine FF.w_acons ?_ ?_ (by rfl)
  exact FF.w_var rfl (by first | exact .inl rfl | exact .inr (.inl rfl) | exact .inr (.inr rfl)) (by decide) (by decide)
  refine FF.w_acons ?_ ?_ (by rfl)
  exact FF.w_int
  exact FF.w_anil
  exact FF.w_nil
  exact FF.w_nil
  refine FF.w_cons ?_ ?_
  refine FF.w_asg ?_ ?_ (by rfl) (by rfl) (by rfl)
  refine FF.w_bin ?_ ?_
  refine FF.w_bin ?_ ?_
  exact FF.w_int
  exact FF.w_int
  refine FF.w_bin ?_ ?_
  exact FF.w_var rfl (by first | exact .inl rfl | exact .inr (.inl rfl) | exact .inr (.inr rfl)) (by decide) (by decide)
  refine FF.w_call (by assumption) (by assumption) (by assumption) (by rfl) (by intro _ _ _ _ _ _; exact FF.ar2 (fun _ _ => rfl)) ?_ (by decide) (by rfl) (by rfl)
  refine FF.w_acons ?_ ?_ (by rfl)
  exact FF.w_var rfl (by first | exact .inl rfl | exact .inr (.inl rfl) | exact .inr (.inr rfl)) (by decide) (by decide)
  refine FF.w_acons ?_ ?_ (by rfl)
  exact FF.w_int
  exact FF.w_anil
  exact FF.sg_name (by assumption) rfl (by first | exact .inl rfl | exact .inr rfl) (by first | exact .inl rfl | exact .inr rfl)
  refine FF.w_cons ?_ ?_
  refine FF.w_asg ?_ ?_ (by rfl) (by rfl) (by rfl)
  refine FF.w_call (by assumption) (by assumption) (by assumption) (by rfl) (by intro _ _ _ _ _ _; exact FF.ar2 (fun _ _ => rfl)) ?_ (by decide) (by rfl) (by rfl)
  refine FF.w_acons ?_ ?_ (by rfl)
  exact FF.w_var rfl (by first | exact .inl rfl | exact .inr (.inl rfl) | exact .inr (.inr rfl)) (by decide) (by decide)
  refine FF.w_acons ?_ ?_ (by rfl)
  refine FF.w_lst ?_
  refine FF.w_acons ?_ ?_ (by rfl)
  exact FF.w_int
  refine FF.w_acons ?_ ?_ (by rfl)
  exact FF.w_int
  refine FF.w_acons ?_ ?_ (by rfl)
  refine FF.w_neg ?_
  exact FF.w_int
  refine FF.w_acons ?_ ?_ (by rfl)
  exact FF.w_int
  refine FF.w_acons ?_ ?_ (by rfl)
  refine FF.w_bin ?_ ?_
  refine FF.w_neg ?_
  exact FF.w_var rfl (by first | exact .inl rfl | exact .inr (.inl rfl) | exact .inr (.inr rfl)) (by decide) (by decide)
  exact FF.w_int
  refine FF.w_acons ?_ ?_ (by rfl)
  refine FF.w_bin ?_ ?_
  exact FF.w_int
  refine FF.w_bin ?_ ?_
  refine FF.w_call (by assumption) (by assumption) (by assumption) (by rfl) (by intro _ _ _ _ _ _; exact FF.ar2 (fun _ _ => rfl)) ?_ (by decide) (by rfl) (by rfl)
  refine FF.w_acons ?_ ?_ (by rfl)
  exact FF.w_var rfl (by first | exact .inl rfl | exact .inr (.inl rfl) | exact .inr (.inr rfl)) (by decide) (by decide)
  refine FF.w_acons ?_ ?_ (by rfl)
  refine FF.w_bin ?_ ?_
  exact FF.w_int
  exact FF.w_int
  exact FF.w_anil
  refine FF.w_bin ?_ ?_
  exact FF.w_int
  exact FF.w_int
  exact FF.w_anil
  exact FF.w_anil
  exact FF.sg_name (by assumption) rfl (by first | exact .inl rfl | exact .inr rfl) (by first | exact .inl rfl | exact .inr rfl)
  refine FF.w_cons ?_ ?_
  refine FF.w_ret ?_
  refine FF.w_cb (FF.cb_min2 rfl) (by rfl) (by assumption) PyProof.Rows.boot_min ?_ (by decide) (by decide) (by rfl) (by rfl)
  refine FF.w_acons ?_ ?_ (by rfl)
  refine FF.w_bin ?_ ?_
  exact FF.w_int
  exact FF.w_int
  refine FF.w_acons ?_ ?_ (by rfl)
  refine FF.w_cb (FF.cb_max2 rfl) (by rfl) (by assumption) PyProof.Rows.boot_max ?_ (by decide) (by decide) (by rfl) (by rfl)
  refine FF.w_acons ?_ ?_ (by rfl)
  exact FF.w_int
  refine FF.w_acons ?_ ?_ (by rfl)
  refine FF.w_bin ?_ ?_
  exact FF.w_var rfl (by first | exact .inl rfl | exact .inr (.inl rfl) | exact .inr (.inr rfl)) (by decide) (by decide)
  exact FF.w_var rfl (by first | exact .inl rfl | exact .inr (.inl rfl) | exact .inr (.inr rfl)) (by decide) (by decide)
  exact FF.w_anil
  exact FF.w_anil
  exact FF.w_nil
theorem S_q_law_book : FnScope ["reel", "many", "found", "place", "step"] ["reel", "many"] (defScope s_q_law_book) := C8.fnScope_by (by decide +kernel)
theorem b_q_law_book {k : Nat} {φ : Fn} (C_q_law_pick : Cal P w K mg base k (φ 3) s_q_law_pick "_law_pick" ["reel", "things"]) (C_q_law_size : Cal P w K mg base k (φ 4) s_q_law_size "_law_size" ["reel", "step"]) (C_q_law_draw : Cal P w K mg base k (φ 2) s_q_law_draw "_law_draw" ["reel", "many"]) (m_range : mg "range" = none) (m_tuple : mg "tuple" = none)   (f : Addr) (cdv : Value) (A : Around) (outer : List Env) (s : Shared) (H : Hp) (hgd : A.guards = some []) (hr : Room k (A.deeper (envOfC "_law_book" (defScope s_q_law_book) s.heap.objs.size f cdv))) :
    SB (Xb P w K mg base ["reel", "many", "found", "place", "step"] "_law_book" (defScope s_q_law_book) f cdv A outer s H) (EK.none K) (defBody s_q_law_book) (exB φ d_q_law_book.body) := by
  have nd : (["reel", "many", "found", "place", "step"] : List Str).Nodup := by decide +kernel
  refine FF.w_cons ?_ ?_
  refine FF.w_asg ?_ ?_ (by rfl) (by rfl) (by rfl)
  refine FF.w_lst ?_
  exact FF.w_anil
  exact FF.sg_name (by assumption) rfl (by first | exact .inl rfl | exact .inr rfl) (by first | exact .inl rfl | exact .inr rfl)
  refine FF.w_cons ?_ ?_
  refine FF.w_for rfl PassesOwn.never ?_ ?_ ?_ (by intro _; rfl)
  refine FF.w_range1 (by rfl) (by assumption) ?_ (by rfl)
  exact FF.w_var rfl (by first | exact .inl rfl | exact .inr (.inl rfl) | exact .inr (.inr rfl)) (by decide) (by decide)
  exact FF.sg_name (by assumption) rfl (by first | exact .inl rfl | exact .inr rfl) (by first | exact .inl rfl | exact .inr rfl)
  refine FF.w_cons ?_ ?_
  refine FF.w_asg ?_ ?_ (by rfl) (by rfl) (by rfl)
  refine FF.w_call (by assumption) (by assumption) (by assumption) (by rfl) (by intro _ _ _ _ _ _; exact FF.ar2 (fun _ _ => rfl)) ?_ (by decide) (by rfl) (by rfl)
  refine FF.w_acons ?_ ?_ (by rfl)
  exact FF.w_var rfl (by first | exact .inl rfl | exact .inr (.inl rfl) | exact .inr (.inr rfl)) (by decide) (by decide)
  refine FF.w_acons ?_ ?_ (by rfl)
  refine FF.w_lst ?_
  refine FF.w_acons ?_ ?_ (by rfl)
  exact FF.w_int
  refine FF.w_acons ?_ ?_ (by rfl)
  exact FF.w_int
  refine FF.w_acons ?_ ?_ (by rfl)
  exact FF.w_int
  refine FF.w_acons ?_ ?_ (by rfl)
  exact FF.w_int
  refine FF.w_acons ?_ ?_ (by rfl)
  exact FF.w_int
  refine FF.w_acons ?_ ?_ (by rfl)
  exact FF.w_int
  refine FF.w_acons ?_ ?_ (by rfl)
  exact FF.w_int
  refine FF.w_acons ?_ ?_ (by rfl)
  exact FF.w_int
  refine FF.w_acons ?_ ?_ (by rfl)
  exact FF.w_int
  refine FF.w_acons ?_ ?_ (by rfl)
  exact FF.w_int
  exact FF.w_anil
  exact FF.w_anil
  exact FF.sg_name (by assumption) rfl (by first | exact .inl rfl | exact .inr rfl) (by first | exact .inl rfl | exact .inr rfl)
  refine FF.w_cons ?_ ?_
  refine FF.w_expr ?_ (by rfl)
  refine FF.w_bm PySem.F.slot_list_append PySem.F.type_list_append FF.mt_appendD FF.fit_append (fun _ _ _ => rfl) ?_ ?_ (by rfl) (by rfl) (by rfl) (by rfl) (by rfl)
  exact FF.w_var rfl (by first | exact .inl rfl | exact .inr (.inl rfl) | exact .inr (.inr rfl)) (by decide) (by decide)
  refine FF.w_acons ?_ ?_ (by rfl)
  refine FF.w_tup ?_
  refine FF.w_acons ?_ ?_ (by rfl)
  refine FF.w_call (by assumption) (by assumption) (by assumption) (by rfl) (by intro _ _ _ _ _ _; exact FF.ar2 (fun _ _ => rfl)) ?_ (by decide) (by rfl) (by rfl)
  refine FF.w_acons ?_ ?_ (by rfl)
  exact FF.w_var rfl (by first | exact .inl rfl | exact .inr (.inl rfl) | exact .inr (.inr rfl)) (by decide) (by decide)
  refine FF.w_acons ?_ ?_ (by rfl)
  exact FF.w_var rfl (by first | exact .inl rfl | exact .inr (.inl rfl) | exact .inr (.inr rfl)) (by decide) (by decide)
  exact FF.w_anil
  refine FF.w_acons ?_ ?_ (by rfl)
  exact FF.w_var rfl (by first | exact .inl rfl | exact .inr (.inl rfl) | exact .inr (.inr rfl)) (by decide) (by decide)
  exact FF.w_anil
  exact FF.w_anil
  refine FF.w_cons ?_ ?_
  refine FF.w_ite ?_ ?_ ?_
  refine FF.w_tbool ?_
  refine FF.w_twand ?_ ?_
  refine FF.w_tcmp (by exact FF.un_of ‹Room _ _› (by decide)) ?_ ?_ (by rfl)
  exact FF.w_var rfl (by first | exact .inl rfl | exact .inr (.inl rfl) | exact .inr (.inr rfl)) (by decide) (by decide)
  exact FF.w_int
  refine FF.w_tone_and ?_
  refine FF.w_tcmp (by exact FF.un_of ‹Room _ _› (by decide)) ?_ ?_ (by rfl)
  refine FF.w_call (by assumption) (by assumption) (by assumption) (by rfl) (by intro _ _ _ _ _ _; exact FF.ar2 (fun _ _ => rfl)) ?_ (by decide) (by rfl) (by rfl)
  refine FF.w_acons ?_ ?_ (by rfl)
  exact FF.w_var rfl (by first | exact .inl rfl | exact .inr (.inl rfl) | exact .inr (.inr rfl)) (by decide) (by decide)
  refine FF.w_acons ?_ ?_ (by rfl)
  exact FF.w_int
  exact FF.w_anil
  exact FF.w_int
  refine FF.w_cons ?_ ?_
  refine FF.w_setIx (by exact FF.un_of ‹Room _ _› (by decide)) ?_ ?_ ?_ (by rfl) (by rfl) (by rfl) (by intro _; rfl)
  refine FF.w_ix (by exact FF.un_of ‹Room _ _› (by decide)) ?_ ?_ (fun _ _ => rfl)
  exact FF.w_var rfl (by first | exact .inl rfl | exact .inr (.inl rfl) | exact .inr (.inr rfl)) (by decide) (by decide)
  refine FF.w_bin ?_ ?_
  exact FF.w_var rfl (by first | exact .inl rfl | exact .inr (.inl rfl) | exact .inr (.inr rfl)) (by decide) (by decide)
  exact FF.w_int
  exact FF.w_var rfl (by first | exact .inl rfl | exact .inr (.inl rfl) | exact .inr (.inr rfl)) (by decide) (by decide)
  exact FF.w_var rfl (by first | exact .inl rfl | exact .inr (.inl rfl) | exact .inr (.inr rfl)) (by decide) (by decide)
  exact FF.w_nil
  exact FF.w_nil
  exact FF.w_nil
  refine FF.w_cons ?_ ?_
  refine FF.w_ret ?_
  refine FF.w_ct FF.cb_tuple (by rfl) (by assumption) PyProof.Rows.boot_tuple ?_ (by decide) (by decide) (by rfl) (by rfl)
  refine FF.w_acons ?_ ?_ (by rfl)
  exact FF.w_var rfl (by first | exact .inl rfl | exact .inr (.inl rfl) | exact .inr (.inr rfl)) (by decide) (by decide)
  exact FF.w_anil
  exact FF.w_nil
theorem S_is_tuple : FnScope ["value", "most"] ["value", "most"] (defScope s_is_tuple) := C8.fnScope_by (by decide +kernel)
theorem b_is_tuple {k : Nat} {φ : Fn}  (m_isinstance : mg "isinstance" = none) (m_tuple : mg "tuple" = none) (m_len : mg "len" = none)   (f : Addr) (cdv : Value) (A : Around) (outer : List Env) (s : Shared) (H : Hp) (hgd : A.guards = some []) (hr : Room k (A.deeper (envOfC "is_tuple" (defScope s_is_tuple) s.heap.objs.size f cdv))) :
    SB (Xb P w K mg base ["value", "most"] "is_tuple" (defScope s_is_tuple) f cdv A outer s H) (EK.none K) (defBody s_is_tuple) (exB φ d_is_tuple.body) := by
  have nd : (["value", "most"] : List Str).Nodup := by decide +kernel
  refine FF.w_cons ?_ ?_
  refine FF.w_ret ?_
  refine FF.w_and ?_ ?_
  refine FF.w_is rfl (by rfl) (by assumption) (by rfl) (by assumption) PyProof.Rows.boot_tuple (by decide) (by decide) ?_ (by rfl) (by rfl) (by rfl)
  exact FF.w_var rfl (by first | exact .inl rfl | exact .inr (.inl rfl) | exact .inr (.inr rfl)) (by decide) (by decide)
  refine FF.w_one ?_
  refine FF.w_chain (by exact FF.un_of ‹Room _ _› (by decide)) ?_ ?_ ?_ (by rfl)
  exact FF.w_int
  refine FF.w_cb FF.cb_len (by rfl) (by assumption) PySem.boot_len ?_ (by decide) (by decide) (by rfl) (by rfl)
  refine FF.w_acons ?_ ?_ (by rfl)
  exact FF.w_var rfl (by first | exact .inl rfl | exact .inr (.inl rfl) | exact .inr (.inr rfl)) (by decide) (by decide)
  exact FF.w_anil
  exact FF.w_var rfl (by first | exact .inl rfl | exact .inr (.inl rfl) | exact .inr (.inr rfl)) (by decide) (by decide)
  exact FF.w_nil
theorem S_is_integer : FnScope ["value"] ["value"] (defScope s_is_integer) := C8.fnScope_by (by decide +kernel)
theorem b_is_integer {k : Nat} {φ : Fn}  (m_isinstance : mg "isinstance" = none) (m_int : mg "int" = none) (m_bool : mg "bool" = none)   (f : Addr) (cdv : Value) (A : Around) (outer : List Env) (s : Shared) (H : Hp) (hgd : A.guards = some []) (hr : Room k (A.deeper (envOfC "is_integer" (defScope s_is_integer) s.heap.objs.size f cdv))) :
    SB (Xb P w K mg base ["value"] "is_integer" (defScope s_is_integer) f cdv A outer s H) (EK.none K) (defBody s_is_integer) (exB φ d_is_integer.body) := by
  have nd : (["value"] : List Str).Nodup := by decide +kernel
  refine FF.w_cons ?_ ?_
  refine FF.w_ret ?_
  refine FF.w_and ?_ ?_
  refine FF.w_is rfl (by rfl) (by assumption) (by rfl) (by assumption) PyProof.Rows.boot_int (by decide) (by decide) ?_ (by rfl) (by rfl) (by rfl)
  exact FF.w_var rfl (by first | exact .inl rfl | exact .inr (.inl rfl) | exact .inr (.inr rfl)) (by decide) (by decide)
  refine FF.w_one ?_
  refine FF.w_not ?_
  refine FF.w_is rfl (by rfl) (by assumption) (by rfl) (by assumption) PyProof.Rows.boot_bool (by decide) (by decide) ?_ (by rfl) (by rfl) (by rfl)
  exact FF.w_var rfl (by first | exact .inl rfl | exact .inr (.inl rfl) | exact .inr (.inr rfl)) (by decide) (by decide)
  exact FF.w_nil
theorem S_is_within : FnScope ["value", "least", "most"] ["value", "least", "most"] (defScope s_is_within) := C8.fnScope_by (by decide +kernel)
theorem b_is_within {k : Nat} {φ : Fn} (C_is_integer : Cal P w K mg base k (φ 84) s_is_integer "is_integer" ["value"])    (f : Addr) (cdv : Value) (A : Around) (outer : List Env) (s : Shared) (H : Hp) (hgd : A.guards = some []) (hr : Room k (A.deeper (envOfC "is_within" (defScope s_is_within) s.heap.objs.size f cdv))) :
    SB (Xb P w K mg base ["value", "least", "most"] "is_within" (defScope s_is_within) f cdv A outer s H) (EK.none K) (defBody s_is_within) (exB φ d_is_within.body) := by
  have nd : (["value", "least", "most"] : List Str).Nodup := by decide +kernel
  refine FF.w_cons ?_ ?_
  refine FF.w_ret ?_
  refine FF.w_and ?_ ?_
  refine FF.w_call (by assumption) (by assumption) (by assumption) (by rfl) (by intro _ _ _ _ _ _; exact FF.ar1 (fun _ => rfl)) ?_ (by decide) (by rfl) (by rfl)
  refine FF.w_acons ?_ ?_ (by rfl)
  exact FF.w_var rfl (by first | exact .inl rfl | exact .inr (.inl rfl) | exact .inr (.inr rfl)) (by decide) (by decide)
  exact FF.w_anil
  refine FF.w_one ?_
  refine FF.w_chain (by exact FF.un_of ‹Room _ _› (by decide)) ?_ ?_ ?_ (by rfl)
  exact FF.w_var rfl (by first | exact .inl rfl | exact .inr (.inl rfl) | exact .inr (.inr rfl)) (by decide) (by decide)
  exact FF.w_var rfl (by first | exact .inl rfl | exact .inr (.inl rfl) | exact .inr (.inr rfl)) (by decide) (by decide)
  exact FF.w_var rfl (by first | exact .inl rfl | exact .inr (.inl rfl) | exact .inr (.inr rfl)) (by decide) (by decide)
  exact FF.w_nil
theorem S_is_size : FnScope ["value"] ["value"] (defScope s_is_size) := C8.fnScope_by (by decide +kernel)
theorem b_is_size {k : Nat} {φ : Fn} (C_is_within : Cal P w K mg base k (φ 85) s_is_within "is_within" ["value", "least", "most"])  (g_MAX_SIZE : GI mg "MAX_SIZE" 1000000000000000000000000000000)  (f : Addr) (cdv : Value) (A : Around) (outer : List Env) (s : Shared) (H : Hp) (hgd : A.guards = some []) (hr : Room k (A.deeper (envOfC "is_size" (defScope s_is_size) s.heap.objs.size f cdv))) :
    SB (Xb P w K mg base ["value"] "is_size" (defScope s_is_size) f cdv A outer s H) (EK.none K) (defBody s_is_size) (exB φ d_is_size.body) := by
  have nd : (["value"] : List Str).Nodup := by decide +kernel
  refine FF.w_cons ?_ ?_
  refine FF.w_ret ?_
  refine FF.w_call (by assumption) (by assumption) (by assumption) (by rfl) (by intro _ _ _ _ _ _; exact FF.ar3 (fun _ _ _ => rfl)) ?_ (by decide) (by rfl) (by rfl)
  refine FF.w_acons ?_ ?_ (by rfl)
  exact FF.w_var rfl (by first | exact .inl rfl | exact .inr (.inl rfl) | exact .inr (.inr rfl)) (by decide) (by decide)
  refine FF.w_acons ?_ ?_ (by rfl)
  exact FF.w_int
  refine FF.w_acons ?_ ?_ (by rfl)
  exact FF.w_globI (by rfl) (by assumption) (by decide)
  exact FF.w_anil
  exact FF.w_nil
theorem S_is_alignment : FnScope ["value"] ["value"] (defScope s_is_alignment) := C8.fnScope_by (by decide +kernel)
theorem b_is_alignment {k : Nat} {φ : Fn} (C_is_integer : Cal P w K mg base k (φ 84) s_is_integer "is_integer" ["value"])  (g_ALIGNMENTS : GK K mg "ALIGNMENTS" [1, 2, 4, 8, 16, 32, 64])  (f : Addr) (cdv : Value) (A : Around) (outer : List Env) (s : Shared) (H : Hp) (hgd : A.guards = some []) (hr : Room k (A.deeper (envOfC "is_alignment" (defScope s_is_alignment) s.heap.objs.size f cdv))) :
    SB (Xb P w K mg base ["value"] "is_alignment" (defScope s_is_alignment) f cdv A outer s H) (EK.none K) (defBody s_is_alignment) (exB φ d_is_alignment.body) := by
  have nd : (["value"] : List Str).Nodup := by decide +kernel
  refine FF.w_cons ?_ ?_
  refine FF.w_ret ?_
  refine FF.w_and ?_ ?_
  refine FF.w_call (by assumption) (by assumption) (by assumption) (by rfl) (by intro _ _ _ _ _ _; exact FF.ar1 (fun _ => rfl)) ?_ (by decide) (by rfl) (by rfl)
  refine FF.w_acons ?_ ?_ (by rfl)
  exact FF.w_var rfl (by first | exact .inl rfl | exact .inr (.inl rfl) | exact .inr (.inr rfl)) (by decide) (by decide)
  exact FF.w_anil
  refine FF.w_one ?_
  refine FF.w_cmp (by exact FF.un_of ‹Room _ _› (by decide)) ?_ ?_ (by rfl)
  exact FF.w_var rfl (by first | exact .inl rfl | exact .inr (.inl rfl) | exact .inr (.inr rfl)) (by decide) (by decide)
  exact FF.w_globK (by rfl) (by assumption) (by decide)
  exact FF.w_nil
theorem S_is_kind : FnScope ["value"] ["value"] (defScope s_is_kind) := C8.fnScope_by (by decide +kernel)
theorem b_is_kind {k : Nat} {φ : Fn} (C_is_alignment : Cal P w K mg base k (φ 87) s_is_alignment "is_alignment" ["value"]) (C_is_size : Cal P w K mg base k (φ 86) s_is_size "is_size" ["value"]) (m_isinstance : mg "isinstance" = none) (m_tuple : mg "tuple" = none) (m_len : mg "len" = none)   (f : Addr) (cdv : Value) (A : Around) (outer : List Env) (s : Shared) (H : Hp) (hgd : A.guards = some []) (hr : Room k (A.deeper (envOfC "is_kind" (defScope s_is_kind) s.heap.objs.size f cdv))) :
    SB (Xb P w K mg base ["value"] "is_kind" (defScope s_is_kind) f cdv A outer s H) (EK.none K) (defBody s_is_kind) (exB φ d_is_kind.body) := by
  have nd : (["value"] : List Str).Nodup := by decide +kernel
  refine FF.w_cons ?_ ?_
  refine FF.w_ret ?_
  refine FF.w_and ?_ ?_
  refine FF.w_is rfl (by rfl) (by assumption) (by rfl) (by assumption) PyProof.Rows.boot_tuple (by decide) (by decide) ?_ (by rfl) (by rfl) (by rfl)
  exact FF.w_var rfl (by first | exact .inl rfl | exact .inr (.inl rfl) | exact .inr (.inr rfl)) (by decide) (by decide)
  refine FF.w_and ?_ ?_
  refine FF.w_cmp (by exact FF.un_of ‹Room _ _› (by decide)) ?_ ?_ (by rfl)
  refine FF.w_cb FF.cb_len (by rfl) (by assumption) PySem.boot_len ?_ (by decide) (by decide) (by rfl) (by rfl)
  refine FF.w_acons ?_ ?_ (by rfl)
  exact FF.w_var rfl (by first | exact .inl rfl | exact .inr (.inl rfl) | exact .inr (.inr rfl)) (by decide) (by decide)
  exact FF.w_anil
  exact FF.w_int
  refine FF.w_and ?_ ?_
  refine FF.w_call (by assumption) (by assumption) (by assumption) (by rfl) (by intro _ _ _ _ _ _; exact FF.ar1 (fun _ => rfl)) ?_ (by decide) (by rfl) (by rfl)
  refine FF.w_acons ?_ ?_ (by rfl)
  refine FF.w_ix (by exact FF.un_of ‹Room _ _› (by decide)) ?_ ?_ (fun _ _ => rfl)
  exact FF.w_var rfl (by first | exact .inl rfl | exact .inr (.inl rfl) | exact .inr (.inr rfl)) (by decide) (by decide)
  exact FF.w_int
  exact FF.w_anil
  refine FF.w_one ?_
  refine FF.w_call (by assumption) (by assumption) (by assumption) (by rfl) (by intro _ _ _ _ _ _; exact FF.ar1 (fun _ => rfl)) ?_ (by decide) (by rfl) (by rfl)
  refine FF.w_acons ?_ ?_ (by rfl)
  refine FF.w_ix (by exact FF.un_of ‹Room _ _› (by decide)) ?_ ?_ (fun _ _ => rfl)
  exact FF.w_var rfl (by first | exact .inl rfl | exact .inr (.inl rfl) | exact .inr (.inr rfl)) (by decide) (by decide)
  exact FF.w_int
  exact FF.w_anil
  exact FF.w_nil
theorem S_book_error : FnScope ["value", "place", "kind"] ["value"] (defScope s_book_error) := C8.fnScope_by (by decide +kernel)
theorem b_book_error {k : Nat} {φ : Fn} (C_is_tuple : Cal P w K mg base k (φ 83) s_is_tuple "is_tuple" ["value", "most"]) (C_is_kind : Cal P w K mg base k (φ 88) s_is_kind "is_kind" ["value"]) (m_enumerate : mg "enumerate" = none) (g_MAX_KINDS : GI mg "MAX_KINDS" 6)  (f : Addr) (cdv : Value) (A : Around) (outer : List Env) (s : Shared) (H : Hp) (hgd : A.guards = some []) (hr : Room k (A.deeper (envOfC "book_error" (defScope s_book_error) s.heap.objs.size f cdv))) :
    SB (Xb P w K mg base ["value", "place", "kind"] "book_error" (defScope s_book_error) f cdv A outer s H) (EK.none K) (defBody s_book_error) (exB φ d_book_error.body) := by
  have nd : (["value", "place", "kind"] : List Str).Nodup := by decide +kernel
  refine FF.w_cons ?_ ?_
  refine FF.w_ite ?_ ?_ ?_
  refine FF.w_tnot ?_
  refine FF.w_tplain ?_ (fun _ => rfl)
  refine FF.w_call (by assumption) (by assumption) (by assumption) (by rfl) (by intro _ _ _ _ _ _; exact FF.ar2 (fun _ _ => rfl)) ?_ (by decide) (by rfl) (by rfl)
  refine FF.w_acons ?_ ?_ (by rfl)
  exact FF.w_var rfl (by first | exact .inl rfl | exact .inr (.inl rfl) | exact .inr (.inr rfl)) (by decide) (by decide)
  refine FF.w_acons ?_ ?_ (by rfl)
  exact FF.w_globI (by rfl) (by assumption) (by decide)
  exact FF.w_anil
  refine FF.w_cons ?_ ?_
  refine FF.w_ret ?_
  exact FF.w_str
  exact FF.w_nil
  exact FF.w_nil
  refine FF.w_cons ?_ ?_
  refine FF.w_for rfl PassesOwn.never ?_ ?_ ?_ (by intro _; rfl)
  refine FF.w_enum (by rfl) (by assumption) ?_ (by rfl)
  exact FF.w_var rfl (by first | exact .inl rfl | exact .inr (.inl rfl) | exact .inr (.inr rfl)) (by decide) (by decide)
  refine FF.sg_tup rfl ?_ (by rfl) (by rfl)
  refine FF.sgs_cons ?_ ?_ (by rfl)
  exact FF.sg_name (by assumption) rfl (by first | exact .inl rfl | exact .inr rfl) (by first | exact .inl rfl | exact .inr rfl)
  refine FF.sgs_cons ?_ ?_ (by rfl)
  exact FF.sg_name (by assumption) rfl (by first | exact .inl rfl | exact .inr rfl) (by first | exact .inl rfl | exact .inr rfl)
  exact FF.sgs_nil
  refine FF.w_cons ?_ ?_
  refine FF.w_ite ?_ ?_ ?_
  refine FF.w_tnot ?_
  refine FF.w_tplain ?_ (fun _ => rfl)
  refine FF.w_call (by assumption) (by assumption) (by assumption) (by rfl) (by intro _ _ _ _ _ _; exact FF.ar1 (fun _ => rfl)) ?_ (by decide) (by rfl) (by rfl)
  refine FF.w_acons ?_ ?_ (by rfl)
  exact FF.w_var rfl (by first | exact .inl rfl | exact .inr (.inl rfl) | exact .inr (.inr rfl)) (by decide) (by decide)
  exact FF.w_anil
  refine FF.w_cons ?_ ?_
  refine FF.w_ret ?_
  refine FF.w_tup ?_
  refine FF.w_acons ?_ ?_ (by rfl)
  exact FF.w_str
  refine FF.w_acons ?_ ?_ (by rfl)
  exact FF.w_var rfl (by first | exact .inl rfl | exact .inr (.inl rfl) | exact .inr (.inr rfl)) (by decide) (by decide)
  exact FF.w_anil
  exact FF.w_nil
  exact FF.w_nil
  exact FF.w_nil
  refine FF.w_cons ?_ ?_
  refine FF.w_ret ?_
  exact FF.w_non
  exact FF.w_nil
theorem S_q_law_mixed : FnScope ["reel", "things", "left", "found"] ["reel", "things"] (defScope s_q_law_mixed) := C8.fnScope_by (by decide +kernel)
theorem b_q_law_mixed {k : Nat} {φ : Fn} (C_q_law_draw : Cal P w K mg base k (φ 2) s_q_law_draw "_law_draw" ["reel", "many"]) (m_list : mg "list" = none) (m_len : mg "len" = none)   (f : Addr) (cdv : Value) (A : Around) (outer : List Env) (s : Shared) (H : Hp) (hgd : A.guards = some []) (hr : Room k (A.deeper (envOfC "_law_mixed" (defScope s_q_law_mixed) s.heap.objs.size f cdv))) :
    SB (Xb P w K mg base ["reel", "things", "left", "found"] "_law_mixed" (defScope s_q_law_mixed) f cdv A outer s H) (EK.none K) (defBody s_q_law_mixed) (exB φ d_q_law_mixed.body) := by
  have nd : (["reel", "things", "left", "found"] : List Str).Nodup := by decide +kernel
  refine FF.w_cons ?_ ?_
  refine FF.w_par rfl (by assumption) (by rfl) (by rfl) (by decide) (by rfl) (by rfl) ?_ (by rfl) (by rfl)
  refine FF.w_acons ?_ ?_ (by rfl)
  refine FF.w_ct FF.cb_list (by rfl) (by assumption) PyProof.Rows.boot_list ?_ (by decide) (by decide) (by rfl) (by rfl)
  refine FF.w_acons ?_ ?_ (by rfl)
  exact FF.w_var rfl (by first | exact .inl rfl | exact .inr (.inl rfl) | exact .inr (.inr rfl)) (by decide) (by decide)
  exact FF.w_anil
  refine FF.w_acons ?_ ?_ (by rfl)
  refine FF.w_lst ?_
  exact FF.w_anil
  exact FF.w_anil
  refine FF.w_cons ?_ ?_
  refine FF.w_while PassesOwn.never ?_ ?_
  refine FF.w_tcmp (by exact FF.un_of ‹Room _ _› (by decide)) ?_ ?_ (by rfl)
  exact FF.w_var rfl (by first | exact .inl rfl | exact .inr (.inl rfl) | exact .inr (.inr rfl)) (by decide) (by decide)
  refine FF.w_lst ?_
  exact FF.w_anil
  refine FF.w_cons ?_ ?_
  refine FF.w_expr ?_ (by rfl)
  refine FF.w_bm PySem.F.slot_list_append PySem.F.type_list_append FF.mt_appendD FF.fit_append (fun _ _ _ => rfl) ?_ ?_ (by rfl) (by rfl) (by rfl) (by rfl) (by rfl)
  exact FF.w_var rfl (by first | exact .inl rfl | exact .inr (.inl rfl) | exact .inr (.inr rfl)) (by decide) (by decide)
  refine FF.w_acons ?_ ?_ (by rfl)
  refine FF.w_bm PySem.F.slot_list_pop PySem.F.type_list_pop FF.mt_popAtD FF.fit_popAt (fun _ _ _ => rfl) ?_ ?_ (by rfl) (by rfl) (by rfl) (by rfl) (by rfl)
  exact FF.w_var rfl (by first | exact .inl rfl | exact .inr (.inl rfl) | exact .inr (.inr rfl)) (by decide) (by decide)
  refine FF.w_acons ?_ ?_ (by rfl)
  refine FF.w_call (by assumption) (by assumption) (by assumption) (by rfl) (by intro _ _ _ _ _ _; exact FF.ar2 (fun _ _ => rfl)) ?_ (by decide) (by rfl) (by rfl)
  refine FF.w_acons ?_ ?_ (by rfl)
  exact FF.w_var rfl (by first | exact .inl rfl | exact .inr (.inl rfl) | exact .inr (.inr rfl)) (by decide) (by decide)
  refine FF.w_acons ?_ ?_ (by rfl)
  refine FF.w_cb FF.cb_len (by rfl) (by assumption) PySem.boot_len ?_ (by decide) (by decide) (by rfl) (by rfl)
  refine FF.w_acons ?_ ?_ (by rfl)
  exact FF.w_var rfl (by first | exact .inl rfl | exact .inr (.inl rfl) | exact .inr (.inr rfl)) (by decide) (by decide)
  exact FF.w_anil
  exact FF.w_anil
  exact FF.w_anil
  exact FF.w_anil
  exact FF.w_nil
  refine FF.w_cons ?_ ?_
  refine FF.w_ret ?_
  exact FF.w_var rfl (by first | exact .inl rfl | exact .inr (.inl rfl) | exact .inr (.inr rfl)) (by decide) (by decide)
  exact FF.w_nil
theorem S_q_law_far : FnScope ["found", "turn"] [] (defScope s_q_law_far) := C8.fnScope_by (by decide +kernel)
theorem b_q_law_far {k : Nat} {φ : Fn}  (m_range : mg "range" = none)   (f : Addr) (cdv : Value) (A : Around) (outer : List Env) (s : Shared) (H : Hp) (hgd : A.guards = some []) (hr : Room k (A.deeper (envOfC "_law_far" (defScope s_q_law_far) s.heap.objs.size f cdv))) :
    SB (Xb P w K mg base ["found", "turn"] "_law_far" (defScope s_q_law_far) f cdv A outer s H) (EK.none K) (defBody s_q_law_far) (exB φ d_q_law_far.body) := by
  have nd : (["found", "turn"] : List Str).Nodup := by decide +kernel
  refine FF.w_cons ?_ ?_
  refine FF.w_asg ?_ ?_ (by rfl) (by rfl) (by rfl)
  exact FF.w_int
  exact FF.sg_name (by assumption) rfl (by first | exact .inl rfl | exact .inr rfl) (by first | exact .inl rfl | exact .inr rfl)
  refine FF.w_cons ?_ ?_
  refine FF.w_for rfl PassesOwn.never ?_ ?_ ?_ (by intro _; rfl)
  refine FF.w_range1 (by rfl) (by assumption) ?_ (by rfl)
  exact FF.w_int
  exact FF.sg_name (by assumption) rfl (by first | exact .inl rfl | exact .inr rfl) (by first | exact .inl rfl | exact .inr rfl)
  refine FF.w_cons ?_ ?_
  refine FF.w_asg ?_ ?_ (by rfl) (by rfl) (by rfl)
  refine FF.w_bin ?_ ?_
  exact FF.w_var rfl (by first | exact .inl rfl | exact .inr (.inl rfl) | exact .inr (.inr rfl)) (by decide) (by decide)
  refine FF.w_bin ?_ ?_
  exact FF.w_int
  exact FF.w_int
  exact FF.sg_name (by assumption) rfl (by first | exact .inl rfl | exact .inr rfl) (by first | exact .inl rfl | exact .inr rfl)
  exact FF.w_nil
  refine FF.w_cons ?_ ?_
  refine FF.w_ret ?_
  exact FF.w_var rfl (by first | exact .inl rfl | exact .inr (.inl rfl) | exact .inr (.inr rfl)) (by decide) (by decide)
  exact FF.w_nil
theorem S_q_law_odd_kind : FnScope ["reel", "kind", "size", "step", "far", "odd", "whole", "own"] ["reel", "kind"] (defScope s_q_law_odd_kind) := C8.fnScope_by (by decide +kernel)
theorem b_q_law_odd_kind {k : Nat} {φ : Fn} (C_q_law_far : Cal P w K mg base k (φ 156) s_q_law_far "_law_far" []) (C_q_law_pick : Cal P w K mg base k (φ 3) s_q_law_pick "_law_pick" ["reel", "things"]) (m_str : mg "str" = none)   (f : Addr) (cdv : Value) (A : Around) (outer : List Env) (s : Shared) (H : Hp) (hgd : A.guards = some []) (hr : Room k (A.deeper (envOfC "_law_odd_kind" (defScope s_q_law_odd_kind) s.heap.objs.size f cdv))) :
    SB (Xb P w K mg base ["reel", "kind", "size", "step", "far", "odd", "whole", "own"] "_law_odd_kind" (defScope s_q_law_odd_kind) f cdv A outer s H) (EK.none K) (defBody s_q_law_odd_kind) (exB φ d_q_law_odd_kind.body) := by
  have nd : (["reel", "kind", "size", "step", "far", "odd", "whole", "own"] : List Str).Nodup := by decide +kernel
  refine FF.w_cons ?_ ?_
  refine FF.w_asg ?_ ?_ (by rfl) (by rfl) (by rfl)
  refine FF.w_tup ?_
  refine FF.w_acons ?_ ?_ (by rfl)
  exact FF.w_var rfl (by first | exact .inl rfl | exact .inr (.inl rfl) | exact .inr (.inr rfl)) (by decide) (by decide)
  refine FF.w_acons ?_ ?_ (by rfl)
  exact FF.w_call0 (by assumption) (by assumption) (by assumption) (by rfl) (fun _ _ _ _ _ _ => rfl) (by decide)
  exact FF.w_anil
  refine FF.sg_tup rfl ?_ (by rfl) (by rfl)
  refine FF.sgs_cons ?_ ?_ (by rfl)
  refine FF.sg_tup rfl ?_ (by rfl) (by rfl)
  refine FF.sgs_cons ?_ ?_ (by rfl)
  exact FF.sg_name (by assumption) rfl (by first | exact .inl rfl | exact .inr rfl) (by first | exact .inl rfl | exact .inr rfl)
  refine FF.sgs_cons ?_ ?_ (by rfl)
  exact FF.sg_name (by assumption) rfl (by first | exact .inl rfl | exact .inr rfl) (by first | exact .inl rfl | exact .inr rfl)
  exact FF.sgs_nil
  refine FF.sgs_cons ?_ ?_ (by rfl)
  exact FF.sg_name (by assumption) rfl (by first | exact .inl rfl | exact .inr rfl) (by first | exact .inl rfl | exact .inr rfl)
  exact FF.sgs_nil
  refine FF.w_cons ?_ ?_
  refine FF.w_asg ?_ ?_ (by rfl) (by rfl) (by rfl)
  refine FF.w_lst ?_
  refine FF.w_acons ?_ ?_ (by rfl)
  refine FF.w_tup ?_
  refine FF.w_acons ?_ ?_ (by rfl)
  exact FF.w_var rfl (by first | exact .inl rfl | exact .inr (.inl rfl) | exact .inr (.inr rfl)) (by decide) (by decide)
  refine FF.w_acons ?_ ?_ (by rfl)
  exact FF.w_var rfl (by first | exact .inl rfl | exact .inr (.inl rfl) | exact .inr (.inr rfl)) (by decide) (by decide)
  exact FF.w_anil
  refine FF.w_acons ?_ ?_ (by rfl)
  refine FF.w_tup ?_
  refine FF.w_acons ?_ ?_ (by rfl)
  refine FF.w_bin ?_ ?_
  exact FF.w_int
  exact FF.w_var rfl (by first | exact .inl rfl | exact .inr (.inl rfl) | exact .inr (.inr rfl)) (by decide) (by decide)
  refine FF.w_acons ?_ ?_ (by rfl)
  exact FF.w_var rfl (by first | exact .inl rfl | exact .inr (.inl rfl) | exact .inr (.inr rfl)) (by decide) (by decide)
  exact FF.w_anil
  refine FF.w_acons ?_ ?_ (by rfl)
  refine FF.w_tup ?_
  refine FF.w_acons ?_ ?_ (by rfl)
  exact FF.w_var rfl (by first | exact .inl rfl | exact .inr (.inl rfl) | exact .inr (.inr rfl)) (by decide) (by decide)
  refine FF.w_acons ?_ ?_ (by rfl)
  exact FF.w_var rfl (by first | exact .inl rfl | exact .inr (.inl rfl) | exact .inr (.inr rfl)) (by decide) (by decide)
  exact FF.w_anil
  refine FF.w_acons ?_ ?_ (by rfl)
  refine FF.w_tup ?_
  refine FF.w_acons ?_ ?_ (by rfl)
  exact FF.w_var rfl (by first | exact .inl rfl | exact .inr (.inl rfl) | exact .inr (.inr rfl)) (by decide) (by decide)
  refine FF.w_acons ?_ ?_ (by rfl)
  refine FF.w_bin ?_ ?_
  exact FF.w_int
  exact FF.w_var rfl (by first | exact .inl rfl | exact .inr (.inl rfl) | exact .inr (.inr rfl)) (by decide) (by decide)
  exact FF.w_anil
  exact FF.w_anil
  exact FF.sg_name (by assumption) rfl (by first | exact .inl rfl | exact .inr rfl) (by first | exact .inl rfl | exact .inr rfl)
  refine FF.w_cons ?_ ?_
  refine FF.w_asg ?_ ?_ (by rfl) (by rfl) (by rfl)
  refine FF.w_lst ?_
  refine FF.w_acons ?_ ?_ (by rfl)
  exact FF.w_int
  refine FF.w_acons ?_ ?_ (by rfl)
  refine FF.w_neg ?_
  exact FF.w_int
  refine FF.w_acons ?_ ?_ (by rfl)
  refine FF.w_bin ?_ ?_
  exact FF.w_int
  exact FF.w_var rfl (by first | exact .inl rfl | exact .inr (.inl rfl) | exact .inr (.inr rfl)) (by decide) (by decide)
  refine FF.w_acons ?_ ?_ (by rfl)
  refine FF.w_bin ?_ ?_
  refine FF.w_bin ?_ ?_
  exact FF.w_int
  exact FF.w_int
  exact FF.w_int
  refine FF.w_acons ?_ ?_ (by rfl)
  exact FF.w_bool
  refine FF.w_acons ?_ ?_ (by rfl)
  refine FF.w_ct FF.cb_str (by rfl) (by assumption) PyProof.Rows.boot_str ?_ (by decide) (by decide) (by rfl) (by rfl)
  refine FF.w_acons ?_ ?_ (by rfl)
  exact FF.w_var rfl (by first | exact .inl rfl | exact .inr (.inl rfl) | exact .inr (.inr rfl)) (by decide) (by decide)
  exact FF.w_anil
  refine FF.w_acons ?_ ?_ (by rfl)
  exact FF.w_non
  refine FF.w_acons ?_ ?_ (by rfl)
  refine FF.w_tup ?_
  refine FF.w_acons ?_ ?_ (by rfl)
  exact FF.w_var rfl (by first | exact .inl rfl | exact .inr (.inl rfl) | exact .inr (.inr rfl)) (by decide) (by decide)
  exact FF.w_anil
  refine FF.w_acons ?_ ?_ (by rfl)
  refine FF.w_lst ?_
  refine FF.w_acons ?_ ?_ (by rfl)
  exact FF.w_var rfl (by first | exact .inl rfl | exact .inr (.inl rfl) | exact .inr (.inr rfl)) (by decide) (by decide)
  exact FF.w_anil
  refine FF.w_acons ?_ ?_ (by rfl)
  refine FF.w_bin ?_ ?_
  exact FF.w_int
  exact FF.w_int
  refine FF.w_acons ?_ ?_ (by rfl)
  exact FF.w_dct0
  exact FF.w_anil
  exact FF.sg_name (by assumption) rfl (by first | exact .inl rfl | exact .inr rfl) (by first | exact .inl rfl | exact .inr rfl)
  refine FF.w_cons ?_ ?_
  refine FF.w_asg ?_ ?_ (by rfl) (by rfl) (by rfl)
  refine FF.w_bin ?_ ?_
  exact FF.w_var rfl (by first | exact .inl rfl | exact .inr (.inl rfl) | exact .inr (.inr rfl)) (by decide) (by decide)
  refine FF.w_comp rfl (by assumption) ?_ (by kernel_rfl) (fun _ _ _ _ _ => ?_) (fun _ _ _ _ _ => ?_) (fun _ _ _ _ _ => ?_) (by intro _; rfl) (by decide)
  refine FF.w_iex ?_
  exact FF.w_var rfl (by first | exact .inl rfl | exact .inr (.inl rfl) | exact .inr (.inr rfl)) (by decide) (by decide)
  exact FF.sg_name (by assumption) rfl (by first | exact .inl rfl | exact .inr rfl) (by first | exact .inl rfl | exact .inr rfl)
  exact FF.w_ifs0
  refine FF.w_tup ?_
  refine FF.w_acons ?_ ?_ (by rfl)
  exact FF.w_var rfl (by first | exact .inl rfl | exact .inr (.inl rfl) | exact .inr (.inr rfl)) (by decide) (by decide)
  refine FF.w_acons ?_ ?_ (by rfl)
  exact FF.w_var rfl (by first | exact .inl rfl | exact .inr (.inl rfl) | exact .inr (.inr rfl)) (by decide) (by decide)
  exact FF.w_anil
  exact FF.sg_name (by assumption) rfl (by first | exact .inl rfl | exact .inr rfl) (by first | exact .inl rfl | exact .inr rfl)
  refine FF.w_cons ?_ ?_
  refine FF.w_asg ?_ ?_ (by rfl) (by rfl) (by rfl)
  refine FF.w_bin ?_ ?_
  exact FF.w_var rfl (by first | exact .inl rfl | exact .inr (.inl rfl) | exact .inr (.inr rfl)) (by decide) (by decide)
  refine FF.w_comp rfl (by assumption) ?_ (by kernel_rfl) (fun _ _ _ _ _ => ?_) (fun _ _ _ _ _ => ?_) (fun _ _ _ _ _ => ?_) (by intro _; rfl) (by decide)
  refine FF.w_iex ?_
  refine FF.w_tup ?_
  refine FF.w_acons ?_ ?_ (by rfl)
  exact FF.w_int
  refine FF.w_acons ?_ ?_ (by rfl)
  exact FF.w_int
  refine FF.w_acons ?_ ?_ (by rfl)
  exact FF.w_int
  refine FF.w_acons ?_ ?_ (by rfl)
  exact FF.w_int
  refine FF.w_acons ?_ ?_ (by rfl)
  exact FF.w_int
  refine FF.w_acons ?_ ?_ (by rfl)
  exact FF.w_int
  refine FF.w_acons ?_ ?_ (by rfl)
  refine FF.w_bin ?_ ?_
  exact FF.w_int
  exact FF.w_var rfl (by first | exact .inl rfl | exact .inr (.inl rfl) | exact .inr (.inr rfl)) (by decide) (by decide)
  refine FF.w_acons ?_ ?_ (by rfl)
  exact FF.w_bool
  refine FF.w_acons ?_ ?_ (by rfl)
  exact FF.w_bool
  refine FF.w_acons ?_ ?_ (by rfl)
  refine FF.w_ct FF.cb_str (by rfl) (by assumption) PyProof.Rows.boot_str ?_ (by decide) (by decide) (by rfl) (by rfl)
  refine FF.w_acons ?_ ?_ (by rfl)
  exact FF.w_var rfl (by first | exact .inl rfl | exact .inr (.inl rfl) | exact .inr (.inr rfl)) (by decide) (by decide)
  exact FF.w_anil
  refine FF.w_acons ?_ ?_ (by rfl)
  exact FF.w_non
  refine FF.w_acons ?_ ?_ (by rfl)
  refine FF.w_lst ?_
  refine FF.w_acons ?_ ?_ (by rfl)
  exact FF.w_var rfl (by first | exact .inl rfl | exact .inr (.inl rfl) | exact .inr (.inr rfl)) (by decide) (by decide)
  exact FF.w_anil
  exact FF.w_anil
  exact FF.sg_name (by assumption) rfl (by first | exact .inl rfl | exact .inr rfl) (by first | exact .inl rfl | exact .inr rfl)
  exact FF.w_ifs0
  refine FF.w_tup ?_
  refine FF.w_acons ?_ ?_ (by rfl)
  exact FF.w_var rfl (by first | exact .inl rfl | exact .inr (.inl rfl) | exact .inr (.inr rfl)) (by decide) (by decide)
  refine FF.w_acons ?_ ?_ (by rfl)
  exact FF.w_var rfl (by first | exact .inl rfl | exact .inr (.inl rfl) | exact .inr (.inr rfl)) (by decide) (by decide)
  exact FF.w_anil
  exact FF.sg_name (by assumption) rfl (by first | exact .inl rfl | exact .inr rfl) (by first | exact .inl rfl | exact .inr rfl)
  refine FF.w_cons ?_ ?_
  refine FF.w_asg ?_ ?_ (by rfl) (by rfl) (by rfl)
  refine FF.w_bin ?_ ?_
  exact FF.w_var rfl (by first | exact .inl rfl | exact .inr (.inl rfl) | exact .inr (.inr rfl)) (by decide) (by decide)
  refine FF.w_lst ?_
  refine FF.w_acons ?_ ?_ (by rfl)
  refine FF.w_tup ?_
  refine FF.w_acons ?_ ?_ (by rfl)
  exact FF.w_var rfl (by first | exact .inl rfl | exact .inr (.inl rfl) | exact .inr (.inr rfl)) (by decide) (by decide)
  exact FF.w_anil
  refine FF.w_acons ?_ ?_ (by rfl)
  refine FF.w_tup ?_
  refine FF.w_acons ?_ ?_ (by rfl)
  exact FF.w_var rfl (by first | exact .inl rfl | exact .inr (.inl rfl) | exact .inr (.inr rfl)) (by decide) (by decide)
  refine FF.w_acons ?_ ?_ (by rfl)
  exact FF.w_var rfl (by first | exact .inl rfl | exact .inr (.inl rfl) | exact .inr (.inr rfl)) (by decide) (by decide)
  refine FF.w_acons ?_ ?_ (by rfl)
  exact FF.w_int
  exact FF.w_anil
  refine FF.w_acons ?_ ?_ (by rfl)
  refine FF.w_lst ?_
  refine FF.w_acons ?_ ?_ (by rfl)
  exact FF.w_var rfl (by first | exact .inl rfl | exact .inr (.inl rfl) | exact .inr (.inr rfl)) (by decide) (by decide)
  refine FF.w_acons ?_ ?_ (by rfl)
  exact FF.w_var rfl (by first | exact .inl rfl | exact .inr (.inl rfl) | exact .inr (.inr rfl)) (by decide) (by decide)
  exact FF.w_anil
  refine FF.w_acons ?_ ?_ (by rfl)
  refine FF.w_tup ?_
  exact FF.w_anil
  refine FF.w_acons ?_ ?_ (by rfl)
  exact FF.w_non
  refine FF.w_acons ?_ ?_ (by rfl)
  exact FF.w_var rfl (by first | exact .inl rfl | exact .inr (.inl rfl) | exact .inr (.inr rfl)) (by decide) (by decide)
  refine FF.w_acons ?_ ?_ (by rfl)
  exact FF.w_str
  refine FF.w_acons ?_ ?_ (by rfl)
  refine FF.w_dct1 ?_ ?_
  exact FF.w_var rfl (by first | exact .inl rfl | exact .inr (.inl rfl) | exact .inr (.inr rfl)) (by decide) (by decide)
  exact FF.w_var rfl (by first | exact .inl rfl | exact .inr (.inl rfl) | exact .inr (.inr rfl)) (by decide) (by decide)
  refine FF.w_acons ?_ ?_ (by rfl)
  exact FF.w_var rfl (by first | exact .inl rfl | exact .inr (.inl rfl) | exact .inr (.inr rfl)) (by decide) (by decide)
  refine FF.w_acons ?_ ?_ (by rfl)
  refine FF.w_tup ?_
  refine FF.w_acons ?_ ?_ (by rfl)
  exact FF.w_int
  refine FF.w_acons ?_ ?_ (by rfl)
  exact FF.w_int
  exact FF.w_anil
  exact FF.w_anil
  exact FF.sg_name (by assumption) rfl (by first | exact .inl rfl | exact .inr rfl) (by first | exact .inl rfl | exact .inr rfl)
  refine FF.w_cons ?_ ?_
  refine FF.w_ret ?_
  refine FF.w_call (by assumption) (by assumption) (by assumption) (by rfl) (by intro _ _ _ _ _ _; exact FF.ar2 (fun _ _ => rfl)) ?_ (by decide) (by rfl) (by rfl)
  refine FF.w_acons ?_ ?_ (by rfl)
  exact FF.w_var rfl (by first | exact .inl rfl | exact .inr (.inl rfl) | exact .inr (.inr rfl)) (by decide) (by decide)
  refine FF.w_acons ?_ ?_ (by rfl)
  refine FF.w_bin ?_ ?_
  exact FF.w_var rfl (by first | exact .inl rfl | exact .inr (.inl rfl) | exact .inr (.inr rfl)) (by decide) (by decide)
  refine FF.w_lst ?_
  refine FF.w_acons ?_ ?_ (by rfl)
  refine FF.w_tup ?_
  refine FF.w_acons ?_ ?_ (by rfl)
  exact FF.w_var rfl (by first | exact .inl rfl | exact .inr (.inl rfl) | exact .inr (.inr rfl)) (by decide) (by decide)
  refine FF.w_acons ?_ ?_ (by rfl)
  refine FF.w_bin ?_ ?_
  exact FF.w_int
  refine FF.w_bin ?_ ?_
  exact FF.w_int
  exact FF.w_int
  exact FF.w_anil
  exact FF.w_anil
  exact FF.w_anil
  exact FF.w_nil
theorem S_q_law_spoilt : FnScope ["reel", "book", "lot", "at", "odd"] ["reel", "book"] (defScope s_q_law_spoilt) := C8.fnScope_by (by decide +kernel)
theorem b_q_law_spoilt {k : Nat} {φ : Fn} (C_q_law_draw : Cal P w K mg base k (φ 2) s_q_law_draw "_law_draw" ["reel", "many"]) (C_q_law_pick : Cal P w K mg base k (φ 3) s_q_law_pick "_law_pick" ["reel", "things"]) (C_q_law_odd_kind : Cal P w K mg base k (φ 157) s_q_law_odd_kind "_law_odd_kind" ["reel", "kind"]) (m_len : mg "len" = none) (m_list : mg "list" = none)   (f : Addr) (cdv : Value) (A : Around) (outer : List Env) (s : Shared) (H : Hp) (hgd : A.guards = some []) (hr : Room k (A.deeper (envOfC "_law_spoilt" (defScope s_q_law_spoilt) s.heap.objs.size f cdv))) :
    SB (Xb P w K mg base ["reel", "book", "lot", "at", "odd"] "_law_spoilt" (defScope s_q_law_spoilt) f cdv A outer s H) (EK.none K) (defBody s_q_law_spoilt) (exB φ d_q_law_spoilt.body) := by
  have nd : (["reel", "book", "lot", "at", "odd"] : List Str).Nodup := by decide +kernel
  refine FF.w_cons ?_ ?_
  refine FF.w_par rfl (by assumption) (by rfl) (by rfl) (by decide) (by rfl) (by rfl) ?_ (by rfl) (by rfl)
  refine FF.w_acons ?_ ?_ (by rfl)
  refine FF.w_call (by assumption) (by assumption) (by assumption) (by rfl) (by intro _ _ _ _ _ _; exact FF.ar2 (fun _ _ => rfl)) ?_ (by decide) (by rfl) (by rfl)
  refine FF.w_acons ?_ ?_ (by rfl)
  exact FF.w_var rfl (by first | exact .inl rfl | exact .inr (.inl rfl) | exact .inr (.inr rfl)) (by decide) (by decide)
  refine FF.w_acons ?_ ?_ (by rfl)
  exact FF.w_int
  exact FF.w_anil
  refine FF.w_acons ?_ ?_ (by rfl)
  refine FF.w_call (by assumption) (by assumption) (by assumption) (by rfl) (by intro _ _ _ _ _ _; exact FF.ar2 (fun _ _ => rfl)) ?_ (by decide) (by rfl) (by rfl)
  refine FF.w_acons ?_ ?_ (by rfl)
  exact FF.w_var rfl (by first | exact .inl rfl | exact .inr (.inl rfl) | exact .inr (.inr rfl)) (by decide) (by decide)
  refine FF.w_acons ?_ ?_ (by rfl)
  refine FF.w_cb FF.cb_len (by rfl) (by assumption) PySem.boot_len ?_ (by decide) (by decide) (by rfl) (by rfl)
  refine FF.w_acons ?_ ?_ (by rfl)
  exact FF.w_var rfl (by first | exact .inl rfl | exact .inr (.inl rfl) | exact .inr (.inr rfl)) (by decide) (by decide)
  exact FF.w_anil
  exact FF.w_anil
  exact FF.w_anil
  refine FF.w_cons ?_ ?_
  refine FF.w_ite ?_ ?_ ?_
  refine FF.w_tcmp (by exact FF.un_of ‹Room _ _› (by decide)) ?_ ?_ (by rfl)
  exact FF.w_var rfl (by first | exact .inl rfl | exact .inr (.inl rfl) | exact .inr (.inr rfl)) (by decide) (by decide)
  exact FF.w_int
  refine FF.w_cons ?_ ?_
  refine FF.w_asg ?_ ?_ (by rfl) (by rfl) (by rfl)
  refine FF.w_lst ?_
  refine FF.w_acons ?_ ?_ (by rfl)
  refine FF.w_ct FF.cb_list (by rfl) (by assumption) PyProof.Rows.boot_list ?_ (by decide) (by decide) (by rfl) (by rfl)
  refine FF.w_acons ?_ ?_ (by rfl)
  exact FF.w_var rfl (by first | exact .inl rfl | exact .inr (.inl rfl) | exact .inr (.inr rfl)) (by decide) (by decide)
  exact FF.w_anil
  refine FF.w_acons ?_ ?_ (by rfl)
  refine FF.w_tup ?_
  exact FF.w_anil
  refine FF.w_acons ?_ ?_ (by rfl)
  exact FF.w_non
  refine FF.w_acons ?_ ?_ (by rfl)
  refine FF.w_bin ?_ ?_
  exact FF.w_var rfl (by first | exact .inl rfl | exact .inr (.inl rfl) | exact .inr (.inr rfl)) (by decide) (by decide)
  exact FF.w_int
  refine FF.w_acons ?_ ?_ (by rfl)
  refine FF.w_tup ?_
  refine FF.w_acons ?_ ?_ (by rfl)
  exact FF.w_var rfl (by first | exact .inl rfl | exact .inr (.inl rfl) | exact .inr (.inr rfl)) (by decide) (by decide)
  exact FF.w_anil
  refine FF.w_acons ?_ ?_ (by rfl)
  refine FF.w_ix (by exact FF.un_of ‹Room _ _› (by decide)) ?_ ?_ (fun _ _ => rfl)
  exact FF.w_var rfl (by first | exact .inl rfl | exact .inr (.inl rfl) | exact .inr (.inr rfl)) (by decide) (by decide)
  exact FF.w_int
  refine FF.w_acons ?_ ?_ (by rfl)
  exact FF.w_str
  refine FF.w_acons ?_ ?_ (by rfl)
  exact FF.w_dct0
  refine FF.w_acons ?_ ?_ (by rfl)
  exact FF.w_int
  refine FF.w_acons ?_ ?_ (by rfl)
  exact FF.w_bool
  refine FF.w_acons ?_ ?_ (by rfl)
  refine FF.w_bin ?_ ?_
  exact FF.w_var rfl (by first | exact .inl rfl | exact .inr (.inl rfl) | exact .inr (.inr rfl)) (by decide) (by decide)
  refine FF.w_bin ?_ ?_
  refine FF.w_slice ?_ ?_ ?_
  exact FF.w_var rfl (by first | exact .inl rfl | exact .inr (.inl rfl) | exact .inr (.inr rfl)) (by decide) (by decide)
  exact FF.w_no
  refine FF.w_yes ?_
  exact FF.w_int
  exact FF.w_int
  exact FF.w_anil
  exact FF.sg_name (by assumption) rfl (by first | exact .inl rfl | exact .inr rfl) (by first | exact .inl rfl | exact .inr rfl)
  refine FF.w_cons ?_ ?_
  refine FF.w_ret ?_
  refine FF.w_call (by assumption) (by assumption) (by assumption) (by rfl) (by intro _ _ _ _ _ _; exact FF.ar2 (fun _ _ => rfl)) ?_ (by decide) (by rfl) (by rfl)
  refine FF.w_acons ?_ ?_ (by rfl)
  exact FF.w_var rfl (by first | exact .inl rfl | exact .inr (.inl rfl) | exact .inr (.inr rfl)) (by decide) (by decide)
  refine FF.w_acons ?_ ?_ (by rfl)
  exact FF.w_var rfl (by first | exact .inl rfl | exact .inr (.inl rfl) | exact .inr (.inr rfl)) (by decide) (by decide)
  exact FF.w_anil
  exact FF.w_nil
  exact FF.w_nil
  refine FF.w_cons ?_ ?_
  refine FF.w_ite ?_ ?_ ?_
  refine FF.w_tcmp (by exact FF.un_of ‹Room _ _› (by decide)) ?_ ?_ (by rfl)
  exact FF.w_var rfl (by first | exact .inl rfl | exact .inr (.inl rfl) | exact .inr (.inr rfl)) (by decide) (by decide)
  exact FF.w_int
  refine FF.w_cons ?_ ?_
  refine FF.w_ret ?_
  refine FF.w_bin ?_ ?_
  refine FF.w_slice ?_ ?_ ?_
  exact FF.w_var rfl (by first | exact .inl rfl | exact .inr (.inl rfl) | exact .inr (.inr rfl)) (by decide) (by decide)
  exact FF.w_no
  refine FF.w_yes ?_
  exact FF.w_var rfl (by first | exact .inl rfl | exact .inr (.inl rfl) | exact .inr (.inr rfl)) (by decide) (by decide)
  refine FF.w_slice ?_ ?_ ?_
  exact FF.w_var rfl (by first | exact .inl rfl | exact .inr (.inl rfl) | exact .inr (.inr rfl)) (by decide) (by decide)
  refine FF.w_yes ?_
  refine FF.w_bin ?_ ?_
  exact FF.w_var rfl (by first | exact .inl rfl | exact .inr (.inl rfl) | exact .inr (.inr rfl)) (by decide) (by decide)
  exact FF.w_int
  exact FF.w_no
  exact FF.w_nil
  exact FF.w_nil
  refine FF.w_cons ?_ ?_
  refine FF.w_ret ?_
  refine FF.w_bin ?_ ?_
  refine FF.w_bin ?_ ?_
  refine FF.w_slice ?_ ?_ ?_
  exact FF.w_var rfl (by first | exact .inl rfl | exact .inr (.inl rfl) | exact .inr (.inr rfl)) (by decide) (by decide)
  exact FF.w_no
  refine FF.w_yes ?_
  exact FF.w_var rfl (by first | exact .inl rfl | exact .inr (.inl rfl) | exact .inr (.inr rfl)) (by decide) (by decide)
  refine FF.w_tup ?_
  refine FF.w_acons ?_ ?_ (by rfl)
  refine FF.w_call (by assumption) (by assumption) (by assumption) (by rfl) (by intro _ _ _ _ _ _; exact FF.ar2 (fun _ _ => rfl)) ?_ (by decide) (by rfl) (by rfl)
  refine FF.w_acons ?_ ?_ (by rfl)
  exact FF.w_var rfl (by first | exact .inl rfl | exact .inr (.inl rfl) | exact .inr (.inr rfl)) (by decide) (by decide)
  refine FF.w_acons ?_ ?_ (by rfl)
  refine FF.w_ix (by exact FF.un_of ‹Room _ _› (by decide)) ?_ ?_ (fun _ _ => rfl)
  exact FF.w_var rfl (by first | exact .inl rfl | exact .inr (.inl rfl) | exact .inr (.inr rfl)) (by decide) (by decide)
  exact FF.w_var rfl (by first | exact .inl rfl | exact .inr (.inl rfl) | exact .inr (.inr rfl)) (by decide) (by decide)
  exact FF.w_anil
  exact FF.w_anil
  refine FF.w_slice ?_ ?_ ?_
  exact FF.w_var rfl (by first | exact .inl rfl | exact .inr (.inl rfl) | exact .inr (.inr rfl)) (by decide) (by decide)
  refine FF.w_yes ?_
  refine FF.w_bin ?_ ?_
  exact FF.w_var rfl (by first | exact .inl rfl | exact .inr (.inl rfl) | exact .inr (.inr rfl)) (by decide) (by decide)
  exact FF.w_int
  exact FF.w_no
  exact FF.w_nil
theorem S_q_law_is_int : FnScope ["value", "low", "high"] ["value", "low", "high"] (defScope s_q_law_is_int) := C8.fnScope_by (by decide +kernel)
theorem b_q_law_is_int {k : Nat} {φ : Fn}  (m_isinstance : mg "isinstance" = none) (m_int : mg "int" = none) (m_bool : mg "bool" = none)   (f : Addr) (cdv : Value) (A : Around) (outer : List Env) (s : Shared) (H : Hp) (hgd : A.guards = some []) (hr : Room k (A.deeper (envOfC "_law_is_int" (defScope s_q_law_is_int) s.heap.objs.size f cdv))) :
    SB (Xb P w K mg base ["value", "low", "high"] "_law_is_int" (defScope s_q_law_is_int) f cdv A outer s H) (EK.none K) (defBody s_q_law_is_int) (exB φ d_q_law_is_int.body) := by
  have nd : (["value", "low", "high"] : List Str).Nodup := by decide +kernel
  refine FF.w_cons ?_ ?_
  refine FF.w_ret ?_
  refine FF.w_and ?_ ?_
  refine FF.w_is rfl (by rfl) (by assumption) (by rfl) (by assumption) PyProof.Rows.boot_int (by decide) (by decide) ?_ (by rfl) (by rfl) (by rfl)
  exact FF.w_var rfl (by first | exact .inl rfl | exact .inr (.inl rfl) | exact .inr (.inr rfl)) (by decide) (by decide)
  refine FF.w_and ?_ ?_
  refine FF.w_not ?_
  refine FF.w_is rfl (by rfl) (by assumption) (by rfl) (by assumption) PyProof.Rows.boot_bool (by decide) (by decide) ?_ (by rfl) (by rfl) (by rfl)
  exact FF.w_var rfl (by first | exact .inl rfl | exact .inr (.inl rfl) | exact .inr (.inr rfl)) (by decide) (by decide)
  refine FF.w_one ?_
  refine FF.w_chain (by exact FF.un_of ‹Room _ _› (by decide)) ?_ ?_ ?_ (by rfl)
  exact FF.w_var rfl (by first | exact .inl rfl | exact .inr (.inl rfl) | exact .inr (.inr rfl)) (by decide) (by decide)
  exact FF.w_var rfl (by first | exact .inl rfl | exact .inr (.inl rfl) | exact .inr (.inr rfl)) (by decide) (by decide)
  exact FF.w_var rfl (by first | exact .inl rfl | exact .inr (.inl rfl) | exact .inr (.inr rfl)) (by decide) (by decide)
  exact FF.w_nil
theorem S_q_law_is_kind : FnScope ["value"] ["value"] (defScope s_q_law_is_kind) := C8.fnScope_by (by decide +kernel)
theorem b_q_law_is_kind {k : Nat} {φ : Fn} (C_q_law_is_int : Cal P w K mg base k (φ 159) s_q_law_is_int "_law_is_int" ["value", "low", "high"]) (m_isinstance : mg "isinstance" = none) (m_tuple : mg "tuple" = none) (m_len : mg "len" = none)   (f : Addr) (cdv : Value) (A : Around) (outer : List Env) (s : Shared) (H : Hp) (hgd : A.guards = some []) (hr : Room k (A.deeper (envOfC "_law_is_kind" (defScope s_q_law_is_kind) s.heap.objs.size f cdv))) :
    SB (Xb P w K mg base ["value"] "_law_is_kind" (defScope s_q_law_is_kind) f cdv A outer s H) (EK.none K) (defBody s_q_law_is_kind) (exB φ d_q_law_is_kind.body) := by
  have nd : (["value"] : List Str).Nodup := by decide +kernel
  refine FF.w_cons ?_ ?_
  refine FF.w_ite ?_ ?_ ?_
  refine FF.w_tbool ?_
  refine FF.w_twor ?_ ?_
  refine FF.w_tnot ?_
  refine FF.w_tplain ?_ (fun _ => rfl)
  refine FF.w_is rfl (by rfl) (by assumption) (by rfl) (by assumption) PyProof.Rows.boot_tuple (by decide) (by decide) ?_ (by rfl) (by rfl) (by rfl)
  exact FF.w_var rfl (by first | exact .inl rfl | exact .inr (.inl rfl) | exact .inr (.inr rfl)) (by decide) (by decide)
  refine FF.w_twor ?_ ?_
  refine FF.w_tcmp (by exact FF.un_of ‹Room _ _› (by decide)) ?_ ?_ (by rfl)
  refine FF.w_cb FF.cb_len (by rfl) (by assumption) PySem.boot_len ?_ (by decide) (by decide) (by rfl) (by rfl)
  refine FF.w_acons ?_ ?_ (by rfl)
  exact FF.w_var rfl (by first | exact .inl rfl | exact .inr (.inl rfl) | exact .inr (.inr rfl)) (by decide) (by decide)
  exact FF.w_anil
  exact FF.w_int
  refine FF.w_tone_or ?_
  refine FF.w_tnot ?_
  refine FF.w_tplain ?_ (fun _ => rfl)
  refine FF.w_call (by assumption) (by assumption) (by assumption) (by rfl) (by intro _ _ _ _ _ _; exact FF.ar3 (fun _ _ _ => rfl)) ?_ (by decide) (by rfl) (by rfl)
  refine FF.w_acons ?_ ?_ (by rfl)
  refine FF.w_ix (by exact FF.un_of ‹Room _ _› (by decide)) ?_ ?_ (fun _ _ => rfl)
  exact FF.w_var rfl (by first | exact .inl rfl | exact .inr (.inl rfl) | exact .inr (.inr rfl)) (by decide) (by decide)
  exact FF.w_int
  refine FF.w_acons ?_ ?_ (by rfl)
  exact FF.w_int
  refine FF.w_acons ?_ ?_ (by rfl)
  refine FF.w_bin ?_ ?_
  exact FF.w_int
  exact FF.w_int
  exact FF.w_anil
  refine FF.w_cons ?_ ?_
  refine FF.w_ret ?_
  exact FF.w_bool
  exact FF.w_nil
  exact FF.w_nil
  refine FF.w_cons ?_ ?_
  refine FF.w_ret ?_
  refine FF.w_and ?_ ?_
  refine FF.w_call (by assumption) (by assumption) (by assumption) (by rfl) (by intro _ _ _ _ _ _; exact FF.ar3 (fun _ _ _ => rfl)) ?_ (by decide) (by rfl) (by rfl)
  refine FF.w_acons ?_ ?_ (by rfl)
  refine FF.w_ix (by exact FF.un_of ‹Room _ _› (by decide)) ?_ ?_ (fun _ _ => rfl)
  exact FF.w_var rfl (by first | exact .inl rfl | exact .inr (.inl rfl) | exact .inr (.inr rfl)) (by decide) (by decide)
  exact FF.w_int
  refine FF.w_acons ?_ ?_ (by rfl)
  exact FF.w_int
  refine FF.w_acons ?_ ?_ (by rfl)
  exact FF.w_int
  exact FF.w_anil
  refine FF.w_one ?_
  refine FF.w_cmp (by exact FF.un_of ‹Room _ _› (by decide)) ?_ ?_ (by rfl)
  refine FF.w_ix (by exact FF.un_of ‹Room _ _› (by decide)) ?_ ?_ (fun _ _ => rfl)
  exact FF.w_var rfl (by first | exact .inl rfl | exact .inr (.inl rfl) | exact .inr (.inr rfl)) (by decide) (by decide)
  exact FF.w_int
  refine FF.w_tup ?_
  refine FF.w_acons ?_ ?_ (by rfl)
  exact FF.w_int
  refine FF.w_acons ?_ ?_ (by rfl)
  exact FF.w_int
  refine FF.w_acons ?_ ?_ (by rfl)
  exact FF.w_int
  refine FF.w_acons ?_ ?_ (by rfl)
  exact FF.w_int
  refine FF.w_acons ?_ ?_ (by rfl)
  exact FF.w_int
  refine FF.w_acons ?_ ?_ (by rfl)
  exact FF.w_int
  refine FF.w_acons ?_ ?_ (by rfl)
  exact FF.w_int
  exact FF.w_anil
  exact FF.w_nil
theorem S_q_law_fault : FnScope ["value", "place", "kind"] ["value"] (defScope s_q_law_fault) := C8.fnScope_by (by decide +kernel)
theorem b_q_law_fault {k : Nat} {φ : Fn} (C_q_law_is_kind : Cal P w K mg base k (φ 160) s_q_law_is_kind "_law_is_kind" ["value"]) (m_enumerate : mg "enumerate" = none) (m_isinstance : mg "isinstance" = none) (m_tuple : mg "tuple" = none) (m_len : mg "len" = none)   (f : Addr) (cdv : Value) (A : Around) (outer : List Env) (s : Shared) (H : Hp) (hgd : A.guards = some []) (hr : Room k (A.deeper (envOfC "_law_fault" (defScope s_q_law_fault) s.heap.objs.size f cdv))) :
    SB (Xb P w K mg base ["value", "place", "kind"] "_law_fault" (defScope s_q_law_fault) f cdv A outer s H) (EK.none K) (defBody s_q_law_fault) (exB φ d_q_law_fault.body) := by
  have nd : (["value", "place", "kind"] : List Str).Nodup := by decide +kernel
  refine FF.w_cons ?_ ?_
  refine FF.w_ite ?_ ?_ ?_
  refine FF.w_tbool ?_
  refine FF.w_twor ?_ ?_
  refine FF.w_tnot ?_
  refine FF.w_tplain ?_ (fun _ => rfl)
  refine FF.w_is rfl (by rfl) (by assumption) (by rfl) (by assumption) PyProof.Rows.boot_tuple (by decide) (by decide) ?_ (by rfl) (by rfl) (by rfl)
  exact FF.w_var rfl (by first | exact .inl rfl | exact .inr (.inl rfl) | exact .inr (.inr rfl)) (by decide) (by decide)
  refine FF.w_twor ?_ ?_
  refine FF.w_tcmp (by exact FF.un_of ‹Room _ _› (by decide)) ?_ ?_ (by rfl)
  refine FF.w_cb FF.cb_len (by rfl) (by assumption) PySem.boot_len ?_ (by decide) (by decide) (by rfl) (by rfl)
  refine FF.w_acons ?_ ?_ (by rfl)
  exact FF.w_var rfl (by first | exact .inl rfl | exact .inr (.inl rfl) | exact .inr (.inr rfl)) (by decide) (by decide)
  exact FF.w_anil
  exact FF.w_int
  refine FF.w_tone_or ?_
  refine FF.w_tcmp (by exact FF.un_of ‹Room _ _› (by decide)) ?_ ?_ (by rfl)
  refine FF.w_cb FF.cb_len (by rfl) (by assumption) PySem.boot_len ?_ (by decide) (by decide) (by rfl) (by rfl)
  refine FF.w_acons ?_ ?_ (by rfl)
  exact FF.w_var rfl (by first | exact .inl rfl | exact .inr (.inl rfl) | exact .inr (.inr rfl)) (by decide) (by decide)
  exact FF.w_anil
  exact FF.w_int
  refine FF.w_cons ?_ ?_
  refine FF.w_ret ?_
  exact FF.w_str
  exact FF.w_nil
  exact FF.w_nil
  refine FF.w_cons ?_ ?_
  refine FF.w_for rfl PassesOwn.never ?_ ?_ ?_ (by intro _; rfl)
  refine FF.w_enum (by rfl) (by assumption) ?_ (by rfl)
  exact FF.w_var rfl (by first | exact .inl rfl | exact .inr (.inl rfl) | exact .inr (.inr rfl)) (by decide) (by decide)
  refine FF.sg_tup rfl ?_ (by rfl) (by rfl)
  refine FF.sgs_cons ?_ ?_ (by rfl)
  exact FF.sg_name (by assumption) rfl (by first | exact .inl rfl | exact .inr rfl) (by first | exact .inl rfl | exact .inr rfl)
  refine FF.sgs_cons ?_ ?_ (by rfl)
  exact FF.sg_name (by assumption) rfl (by first | exact .inl rfl | exact .inr rfl) (by first | exact .inl rfl | exact .inr rfl)
  exact FF.sgs_nil
  refine FF.w_cons ?_ ?_
  refine FF.w_ite ?_ ?_ ?_
  refine FF.w_tnot ?_
  refine FF.w_tplain ?_ (fun _ => rfl)
  refine FF.w_call (by assumption) (by assumption) (by assumption) (by rfl) (by intro _ _ _ _ _ _; exact FF.ar1 (fun _ => rfl)) ?_ (by decide) (by rfl) (by rfl)
  refine FF.w_acons ?_ ?_ (by rfl)
  exact FF.w_var rfl (by first | exact .inl rfl | exact .inr (.inl rfl) | exact .inr (.inr rfl)) (by decide) (by decide)
  exact FF.w_anil
  refine FF.w_cons ?_ ?_
  refine FF.w_ret ?_
  refine FF.w_tup ?_
  refine FF.w_acons ?_ ?_ (by rfl)
  exact FF.w_str
  refine FF.w_acons ?_ ?_ (by rfl)
  exact FF.w_var rfl (by first | exact .inl rfl | exact .inr (.inl rfl) | exact .inr (.inr rfl)) (by decide) (by decide)
  exact FF.w_anil
  exact FF.w_nil
  exact FF.w_nil
  exact FF.w_nil
  refine FF.w_cons ?_ ?_
  refine FF.w_ret ?_
  exact FF.w_non
  exact FF.w_nil
theorem S_q_law_is_told : FnScope ["value", "is_named", "shown", "due", "told"] ["value", "is_named"] (defScope s_q_law_is_told) := C8.fnScope_by (by decide +kernel)
theorem b_q_law_is_told {k : Nat} {φ : Fn} (C_q_law_fault : Cal P w K mg base k (φ 161) s_q_law_fault "_law_fault" ["value"]) (C_book_error : Cal P w K mg base k (φ 89) s_book_error "book_error" ["value"]) (m_repr : mg "repr" = none)   (f : Addr) (cdv : Value) (A : Around) (outer : List Env) (s : Shared) (H : Hp) (hgd : A.guards = some []) (hr : Room k (A.deeper (envOfC "_law_is_told" (defScope s_q_law_is_told) s.heap.objs.size f cdv))) :
    SB (Xb P w K mg base ["value", "is_named", "shown", "due", "told"] "_law_is_told" (defScope s_q_law_is_told) f cdv A outer s H) (EK.none K) (defBody s_q_law_is_told) (exB φ d_q_law_is_told.body) := by
  have nd : (["value", "is_named", "shown", "due", "told"] : List Str).Nodup := by decide +kernel
  refine FF.w_cons ?_ ?_
  refine FF.w_par rfl (by assumption) (by rfl) (by rfl) (by decide) (by rfl) (by rfl) ?_ (by rfl) (by rfl)
  refine FF.w_acons ?_ ?_ (by rfl)
  refine FF.w_cb (FF.cb_reprR (by assumption) (by exact FF.un_of ‹Room _ _› (by decide))) (by rfl) (by assumption) PyProof.Rows.boot_repr ?_ (by decide) (by decide) (by rfl) (by rfl)
  refine FF.w_acons ?_ ?_ (by rfl)
  exact FF.w_var rfl (by first | exact .inl rfl | exact .inr (.inl rfl) | exact .inr (.inr rfl)) (by decide) (by decide)
  exact FF.w_anil
  refine FF.w_acons ?_ ?_ (by rfl)
  refine FF.w_call (by assumption) (by assumption) (by assumption) (by rfl) (by intro _ _ _ _ _ _; exact FF.ar1 (fun _ => rfl)) ?_ (by decide) (by rfl) (by rfl)
  refine FF.w_acons ?_ ?_ (by rfl)
  exact FF.w_var rfl (by first | exact .inl rfl | exact .inr (.inl rfl) | exact .inr (.inr rfl)) (by decide) (by decide)
  exact FF.w_anil
  exact FF.w_anil
  refine FF.w_cons ?_ ?_
  refine FF.w_asg ?_ ?_ (by rfl) (by rfl) (by rfl)
  refine FF.w_lst ?_
  refine FF.w_acons ?_ ?_ (by rfl)
  refine FF.w_if ?_ ?_ ?_
  refine FF.w_tplain ?_ (fun _ => rfl)
  exact FF.w_var rfl (by first | exact .inl rfl | exact .inr (.inl rfl) | exact .inr (.inr rfl)) (by decide) (by decide)
  refine FF.w_callN (by assumption) (by assumption) (by assumption) (by rfl) (by intro _ _ _ _ _ _; exact FF.kar1 rfl (by decide) (fun _ _ => rfl)) ?_ (by decide) (by rfl) (by rfl) (by rfl)
  refine FF.w_kcons ?_ ?_
  exact FF.w_var rfl (by first | exact .inl rfl | exact .inr (.inl rfl) | exact .inr (.inr rfl)) (by decide) (by decide)
  exact FF.w_knil
  refine FF.w_call (by assumption) (by assumption) (by assumption) (by rfl) (by intro _ _ _ _ _ _; exact FF.ar1 (fun _ => rfl)) ?_ (by decide) (by rfl) (by rfl)
  refine FF.w_acons ?_ ?_ (by rfl)
  exact FF.w_var rfl (by first | exact .inl rfl | exact .inr (.inl rfl) | exact .inr (.inr rfl)) (by decide) (by decide)
  exact FF.w_anil
  refine FF.w_acons ?_ ?_ (by rfl)
  refine FF.w_call (by assumption) (by assumption) (by assumption) (by rfl) (by intro _ _ _ _ _ _; exact FF.ar1 (fun _ => rfl)) ?_ (by decide) (by rfl) (by rfl)
  refine FF.w_acons ?_ ?_ (by rfl)
  exact FF.w_var rfl (by first | exact .inl rfl | exact .inr (.inl rfl) | exact .inr (.inr rfl)) (by decide) (by decide)
  exact FF.w_anil
  exact FF.w_anil
  exact FF.sg_name (by assumption) rfl (by first | exact .inl rfl | exact .inr rfl) (by first | exact .inl rfl | exact .inr rfl)
  refine FF.w_cons ?_ ?_
  refine FF.w_ret ?_
  refine FF.w_and ?_ ?_
  refine FF.w_cmp (by exact FF.un_of ‹Room _ _› (by decide)) ?_ ?_ (by rfl)
  refine FF.w_cb (FF.cb_repr (by assumption) (by exact FF.un_of ‹Room _ _› (by decide))) (by rfl) (by assumption) PyProof.Rows.boot_repr ?_ (by decide) (by decide) (by rfl) (by rfl)
  refine FF.w_acons ?_ ?_ (by rfl)
  exact FF.w_var rfl (by first | exact .inl rfl | exact .inr (.inl rfl) | exact .inr (.inr rfl)) (by decide) (by decide)
  exact FF.w_anil
  refine FF.w_cb (FF.cb_repr (by assumption) (by exact FF.un_of ‹Room _ _› (by decide))) (by rfl) (by assumption) PyProof.Rows.boot_repr ?_ (by decide) (by decide) (by rfl) (by rfl)
  refine FF.w_acons ?_ ?_ (by rfl)
  refine FF.w_lst ?_
  refine FF.w_acons ?_ ?_ (by rfl)
  exact FF.w_var rfl (by first | exact .inl rfl | exact .inr (.inl rfl) | exact .inr (.inr rfl)) (by decide) (by decide)
  refine FF.w_acons ?_ ?_ (by rfl)
  exact FF.w_var rfl (by first | exact .inl rfl | exact .inr (.inl rfl) | exact .inr (.inr rfl)) (by decide) (by decide)
  exact FF.w_anil
  exact FF.w_anil
  refine FF.w_one ?_
  refine FF.w_cmp (by exact FF.un_of ‹Room _ _› (by decide)) ?_ ?_ (by rfl)
  refine FF.w_cb (FF.cb_reprR (by assumption) (by exact FF.un_of ‹Room _ _› (by decide))) (by rfl) (by assumption) PyProof.Rows.boot_repr ?_ (by decide) (by decide) (by rfl) (by rfl)
  refine FF.w_acons ?_ ?_ (by rfl)
  exact FF.w_var rfl (by first | exact .inl rfl | exact .inr (.inl rfl) | exact .inr (.inr rfl)) (by decide) (by decide)
  exact FF.w_anil
  exact FF.w_var rfl (by first | exact .inl rfl | exact .inr (.inl rfl) | exact .inr (.inr rfl)) (by decide) (by decide)
  exact FF.w_nil
theorem S_law : FnScope ["script", "reel", "turn", "book", "values", "other", "two", "value", "ends", "things", "told", "own", "nth", "at", "kind"] ["script"] (defScope s_law) := C8.fnScope_by (by decide +kernel)
theorem b_law {k : Nat} {φ : Fn} {C_Unfit : Addr} (C_q_law_reel : Cal P w K mg base k (φ 1) s_q_law_reel "_law_reel" ["script"]) (C_q_law_book : Cal P w K mg base k (φ 5) s_q_law_book "_law_book" ["reel", "many"]) (C_q_law_draw : Cal P w K mg base k (φ 2) s_q_law_draw "_law_draw" ["reel", "many"]) (C_q_law_spoilt : Cal P w K mg base k (φ 158) s_q_law_spoilt "_law_spoilt" ["reel", "book"]) (C_q_law_mixed : Cal P w K mg base k (φ 18) s_q_law_mixed "_law_mixed" ["reel", "things"]) (C_q_law_odd_kind : Cal P w K mg base k (φ 157) s_q_law_odd_kind "_law_odd_kind" ["reel", "kind"]) (C_q_law_is_told : Cal P w K mg base k (φ 162) s_q_law_is_told "_law_is_told" ["value", "is_named"]) (C_book_error : Cal P w K mg base k (φ 89) s_book_error "book_error" ["value"]) (m_range : mg "range" = none) (m_repr : mg "repr" = none) (m_tuple : mg "tuple" = none) (m_list : mg "list" = none) (m_enumerate : mg "enumerate" = none)  (e_Unfit : Err0 K mg "Unfit" C_Unfit) (n4_Unfit : N4 K C_Unfit) (o_Desk : MakeO P w K mg base k (φ 9001) "Desk") (f : Addr) (cdv : Value) (A : Around) (outer : List Env) (s : Shared) (H : Hp) (hgd : A.guards = some []) (hr : Room k (A.deeper (envOfC "law" (defScope s_law) s.heap.objs.size f cdv))) :
    SB (Xb P w K mg base ["script", "reel", "turn", "book", "values", "other", "two", "value", "ends", "things", "told", "own", "nth", "at", "kind"] "law" (defScope s_law) f cdv A outer s H) (EK.none K) (defBody s_law) (exB φ d_law.body) := by
  have nd : (["script", "reel", "turn", "book", "values", "other", "two", "value", "ends", "things", "told", "own", "nth", "at", "kind"] : List Str).Nodup := by decide +kernel
  refine FF.w_cons ?_ ?_
  refine FF.w_asg ?_ ?_ (by rfl) (by rfl) (by rfl)
  refine FF.w_call (by assumption) (by assumption) (by assumption) (by rfl) (by intro _ _ _ _ _ _; exact FF.ar1 (fun _ => rfl)) ?_ (by decide) (by rfl) (by rfl)
  refine FF.w_acons ?_ ?_ (by rfl)
  exact FF.w_var rfl (by first | exact .inl rfl | exact .inr (.inl rfl) | exact .inr (.inr rfl)) (by decide) (by decide)
  exact FF.w_anil
  exact FF.sg_name (by assumption) rfl (by first | exact .inl rfl | exact .inr rfl) (by first | exact .inl rfl | exact .inr rfl)
  refine FF.w_cons ?_ ?_
  refine FF.w_for rfl PassesOwn.never ?_ ?_ ?_ (by intro _; rfl)
  refine FF.w_range1 (by rfl) (by assumption) ?_ (by rfl)
  exact FF.w_int
  exact FF.sg_name (by assumption) rfl (by first | exact .inl rfl | exact .inr rfl) (by first | exact .inl rfl | exact .inr rfl)
  refine FF.w_cons ?_ ?_
  refine FF.w_asg ?_ ?_ (by rfl) (by rfl) (by rfl)
  refine FF.w_call (by assumption) (by assumption) (by assumption) (by rfl) (by intro _ _ _ _ _ _; exact FF.ar2 (fun _ _ => rfl)) ?_ (by decide) (by rfl) (by rfl)
  refine FF.w_acons ?_ ?_ (by rfl)
  exact FF.w_var rfl (by first | exact .inl rfl | exact .inr (.inl rfl) | exact .inr (.inr rfl)) (by decide) (by decide)
  refine FF.w_acons ?_ ?_ (by rfl)
  refine FF.w_bin ?_ ?_
  exact FF.w_int
  refine FF.w_call (by assumption) (by assumption) (by assumption) (by rfl) (by intro _ _ _ _ _ _; exact FF.ar2 (fun _ _ => rfl)) ?_ (by decide) (by rfl) (by rfl)
  refine FF.w_acons ?_ ?_ (by rfl)
  exact FF.w_var rfl (by first | exact .inl rfl | exact .inr (.inl rfl) | exact .inr (.inr rfl)) (by decide) (by decide)
  refine FF.w_acons ?_ ?_ (by rfl)
  exact FF.w_int
  exact FF.w_anil
  exact FF.w_anil
  exact FF.sg_name (by assumption) rfl (by first | exact .inl rfl | exact .inr rfl) (by first | exact .inl rfl | exact .inr rfl)
  refine FF.w_cons ?_ ?_
  refine FF.w_asg ?_ ?_ (by rfl) (by rfl) (by rfl)
  refine FF.w_bin ?_ ?_
  refine FF.w_lst ?_
  refine FF.w_acons ?_ ?_ (by rfl)
  exact FF.w_var rfl (by first | exact .inl rfl | exact .inr (.inl rfl) | exact .inr (.inr rfl)) (by decide) (by decide)
  exact FF.w_anil
  refine FF.w_comp rfl (by assumption) ?_ (by kernel_rfl) (fun _ _ _ _ _ => ?_) (fun _ _ _ _ _ => ?_) (fun _ _ _ _ _ => ?_) (by intro _; rfl) (by decide)
  refine FF.w_range1 (by rfl) (by assumption) ?_ (by rfl)
  exact FF.w_int
  exact FF.sg_name (by assumption) rfl (by first | exact .inl rfl | exact .inr rfl) (by first | exact .inl rfl | exact .inr rfl)
  exact FF.w_ifs0
  refine FF.w_call (by assumption) (by assumption) (by assumption) (by rfl) (by intro _ _ _ _ _ _; exact FF.ar2 (fun _ _ => rfl)) ?_ (by decide) (by rfl) (by rfl)
  refine FF.w_acons ?_ ?_ (by rfl)
  exact FF.w_var rfl (by first | exact .inl rfl | exact .inr (.inl rfl) | exact .inr (.inr rfl)) (by decide) (by decide)
  refine FF.w_acons ?_ ?_ (by rfl)
  exact FF.w_var rfl (by first | exact .inl rfl | exact .inr (.inl rfl) | exact .inr (.inr rfl)) (by decide) (by decide)
  exact FF.w_anil
  exact FF.sg_name (by assumption) rfl (by first | exact .inl rfl | exact .inr rfl) (by first | exact .inl rfl | exact .inr rfl)
  refine FF.w_cons ?_ ?_
  refine FF.w_asg ?_ ?_ (by rfl) (by rfl) (by rfl)
  refine FF.w_call (by assumption) (by assumption) (by assumption) (by rfl) (by intro _ _ _ _ _ _; exact FF.ar2 (fun _ _ => rfl)) ?_ (by decide) (by rfl) (by rfl)
  refine FF.w_acons ?_ ?_ (by rfl)
  exact FF.w_var rfl (by first | exact .inl rfl | exact .inr (.inl rfl) | exact .inr (.inr rfl)) (by decide) (by decide)
  refine FF.w_acons ?_ ?_ (by rfl)
  exact FF.w_int
  exact FF.w_anil
  exact FF.sg_name (by assumption) rfl (by first | exact .inl rfl | exact .inr rfl) (by first | exact .inl rfl | exact .inr rfl)
  refine FF.w_cons ?_ ?_
  refine FF.w_asg ?_ ?_ (by rfl) (by rfl) (by rfl)
  refine FF.w_slice ?_ ?_ ?_
  refine FF.w_call (by assumption) (by assumption) (by assumption) (by rfl) (by intro _ _ _ _ _ _; exact FF.ar2 (fun _ _ => rfl)) ?_ (by decide) (by rfl) (by rfl)
  refine FF.w_acons ?_ ?_ (by rfl)
  exact FF.w_var rfl (by first | exact .inl rfl | exact .inr (.inl rfl) | exact .inr (.inr rfl)) (by decide) (by decide)
  refine FF.w_acons ?_ ?_ (by rfl)
  refine FF.w_lrng1 (by rfl) (by rfl) (by assumption) (by rfl) (by assumption) ?_ (by rfl) (by rfl)
  exact FF.w_int
  exact FF.w_anil
  exact FF.w_no
  refine FF.w_yes ?_
  exact FF.w_int
  exact FF.sg_name (by assumption) rfl (by first | exact .inl rfl | exact .inr rfl) (by first | exact .inl rfl | exact .inr rfl)
  refine FF.w_cons ?_ ?_
  refine FF.w_expr ?_ (by rfl)
  refine FF.w_bm PySem.F.slot_list_append PySem.F.type_list_append FF.mt_appendD FF.fit_append (fun _ _ _ => rfl) ?_ ?_ (by rfl) (by rfl) (by rfl) (by rfl) (by rfl)
  exact FF.w_var rfl (by first | exact .inl rfl | exact .inr (.inl rfl) | exact .inr (.inr rfl)) (by decide) (by decide)
  refine FF.w_acons ?_ ?_ (by rfl)
  refine FF.w_ct FF.cb_tuple (by rfl) (by assumption) PyProof.Rows.boot_tuple ?_ (by decide) (by decide) (by rfl) (by rfl)
  refine FF.w_acons ?_ ?_ (by rfl)
  refine FF.w_comp rfl (by assumption) ?_ (by kernel_rfl) (fun _ _ _ _ _ => ?_) (fun _ _ _ _ _ => ?_) (fun _ _ _ _ _ => ?_) (by intro _; rfl) (by decide)
  refine FF.w_enum (by rfl) (by assumption) ?_ (by rfl)
  exact FF.w_var rfl (by first | exact .inl rfl | exact .inr (.inl rfl) | exact .inr (.inr rfl)) (by decide) (by decide)
  refine FF.sg_tup rfl ?_ (by rfl) (by rfl)
  refine FF.sgs_cons ?_ ?_ (by rfl)
  exact FF.sg_name (by assumption) rfl (by first | exact .inl rfl | exact .inr rfl) (by first | exact .inl rfl | exact .inr rfl)
  refine FF.sgs_cons ?_ ?_ (by rfl)
  exact FF.sg_name (by assumption) rfl (by first | exact .inl rfl | exact .inr rfl) (by first | exact .inl rfl | exact .inr rfl)
  exact FF.sgs_nil
  exact FF.w_ifs0
  refine FF.w_if ?_ ?_ ?_
  refine FF.w_tcmp (by exact FF.un_of ‹Room _ _› (by decide)) ?_ ?_ (by rfl)
  exact FF.w_var rfl (by first | exact .inl rfl | exact .inr (.inl rfl) | exact .inr (.inr rfl)) (by decide) (by decide)
  exact FF.w_var rfl (by first | exact .inl rfl | exact .inr (.inl rfl) | exact .inr (.inr rfl)) (by decide) (by decide)
  refine FF.w_call (by assumption) (by assumption) (by assumption) (by rfl) (by intro _ _ _ _ _ _; exact FF.ar2 (fun _ _ => rfl)) ?_ (by decide) (by rfl) (by rfl)
  refine FF.w_acons ?_ ?_ (by rfl)
  exact FF.w_var rfl (by first | exact .inl rfl | exact .inr (.inl rfl) | exact .inr (.inr rfl)) (by decide) (by decide)
  refine FF.w_acons ?_ ?_ (by rfl)
  exact FF.w_var rfl (by first | exact .inl rfl | exact .inr (.inl rfl) | exact .inr (.inr rfl)) (by decide) (by decide)
  exact FF.w_anil
  exact FF.w_var rfl (by first | exact .inl rfl | exact .inr (.inl rfl) | exact .inr (.inr rfl)) (by decide) (by decide)
  exact FF.w_anil
  exact FF.w_anil
  refine FF.w_cons ?_ ?_
  refine FF.w_for rfl PassesOwn.never ?_ ?_ ?_ (by intro _; rfl)
  refine FF.w_iex ?_
  exact FF.w_var rfl (by first | exact .inl rfl | exact .inr (.inl rfl) | exact .inr (.inr rfl)) (by decide) (by decide)
  exact FF.sg_name (by assumption) rfl (by first | exact .inl rfl | exact .inr rfl) (by first | exact .inl rfl | exact .inr rfl)
  refine FF.w_cons ?_ ?_
  refine FF.w_ite ?_ ?_ ?_
  refine FF.w_tnot ?_
  refine FF.w_tplain ?_ (fun _ => rfl)
  refine FF.w_call (by assumption) (by assumption) (by assumption) (by rfl) (by intro _ _ _ _ _ _; exact FF.ar2 (fun _ _ => rfl)) ?_ (by decide) (by rfl) (by rfl)
  refine FF.w_acons ?_ ?_ (by rfl)
  exact FF.w_var rfl (by first | exact .inl rfl | exact .inr (.inl rfl) | exact .inr (.inr rfl)) (by decide) (by decide)
  refine FF.w_acons ?_ ?_ (by rfl)
  refine FF.w_cmp (by exact FF.un_of ‹Room _ _› (by decide)) ?_ ?_ (by rfl)
  refine FF.w_bin ?_ ?_
  exact FF.w_var rfl (by first | exact .inl rfl | exact .inr (.inl rfl) | exact .inr (.inr rfl)) (by decide) (by decide)
  exact FF.w_int
  exact FF.w_int
  exact FF.w_anil
  refine FF.w_cons ?_ ?_
  refine FF.w_ret ?_
  exact FF.w_bool
  exact FF.w_nil
  exact FF.w_nil
  exact FF.w_nil
  exact FF.w_nil
  refine FF.w_cons ?_ ?_
  refine FF.w_asg ?_ ?_ (by rfl) (by rfl) (by rfl)
  refine FF.w_lst ?_
  refine FF.w_acons ?_ ?_ (by rfl)
  refine FF.w_bin ?_ ?_
  refine FF.w_tup ?_
  refine FF.w_acons ?_ ?_ (by rfl)
  refine FF.w_tup ?_
  refine FF.w_acons ?_ ?_ (by rfl)
  refine FF.w_bin ?_ ?_
  exact FF.w_int
  exact FF.w_int
  refine FF.w_acons ?_ ?_ (by rfl)
  exact FF.w_int
  exact FF.w_anil
  exact FF.w_anil
  exact FF.w_int
  refine FF.w_acons ?_ ?_ (by rfl)
  refine FF.w_bin ?_ ?_
  refine FF.w_tup ?_
  refine FF.w_acons ?_ ?_ (by rfl)
  refine FF.w_tup ?_
  refine FF.w_acons ?_ ?_ (by rfl)
  refine FF.w_bin ?_ ?_
  exact FF.w_int
  exact FF.w_int
  refine FF.w_acons ?_ ?_ (by rfl)
  exact FF.w_int
  exact FF.w_anil
  exact FF.w_anil
  exact FF.w_int
  refine FF.w_acons ?_ ?_ (by rfl)
  refine FF.w_tup ?_
  refine FF.w_acons ?_ ?_ (by rfl)
  refine FF.w_tup ?_
  refine FF.w_acons ?_ ?_ (by rfl)
  exact FF.w_int
  refine FF.w_acons ?_ ?_ (by rfl)
  exact FF.w_int
  exact FF.w_anil
  exact FF.w_anil
  refine FF.w_acons ?_ ?_ (by rfl)
  refine FF.w_tup ?_
  refine FF.w_acons ?_ ?_ (by rfl)
  refine FF.w_tup ?_
  refine FF.w_acons ?_ ?_ (by rfl)
  refine FF.w_bin ?_ ?_
  refine FF.w_bin ?_ ?_
  exact FF.w_int
  exact FF.w_int
  exact FF.w_int
  refine FF.w_acons ?_ ?_ (by rfl)
  exact FF.w_int
  exact FF.w_anil
  exact FF.w_anil
  refine FF.w_acons ?_ ?_ (by rfl)
  refine FF.w_bin ?_ ?_
  refine FF.w_tup ?_
  refine FF.w_acons ?_ ?_ (by rfl)
  exact FF.w_non
  exact FF.w_anil
  refine FF.w_bin ?_ ?_
  refine FF.w_tup ?_
  refine FF.w_acons ?_ ?_ (by rfl)
  refine FF.w_tup ?_
  refine FF.w_acons ?_ ?_ (by rfl)
  exact FF.w_int
  refine FF.w_acons ?_ ?_ (by rfl)
  exact FF.w_int
  exact FF.w_anil
  exact FF.w_anil
  exact FF.w_int
  exact FF.w_anil
  exact FF.sg_name (by assumption) rfl (by first | exact .inl rfl | exact .inr rfl) (by first | exact .inl rfl | exact .inr rfl)
  refine FF.w_cons ?_ ?_
  refine FF.w_ite ?_ ?_ ?_
  refine FF.w_tcmp (by exact FF.un_of ‹Room _ _› (by decide)) ?_ ?_ (by rfl)
  refine FF.w_comp rfl (by assumption) ?_ (by kernel_rfl) (fun _ _ _ _ _ => ?_) (fun _ _ _ _ _ => ?_) (fun _ _ _ _ _ => ?_) (by intro _; rfl) (by decide)
  refine FF.w_iex ?_
  exact FF.w_var rfl (by first | exact .inl rfl | exact .inr (.inl rfl) | exact .inr (.inr rfl)) (by decide) (by decide)
  exact FF.sg_name (by assumption) rfl (by first | exact .inl rfl | exact .inr rfl) (by first | exact .inl rfl | exact .inr rfl)
  refine FF.w_ifs1 ?_
  refine FF.w_tnot ?_
  refine FF.w_tplain ?_ (fun _ => rfl)
  refine FF.w_call (by assumption) (by assumption) (by assumption) (by rfl) (by intro _ _ _ _ _ _; exact FF.ar2 (fun _ _ => rfl)) ?_ (by decide) (by rfl) (by rfl)
  refine FF.w_acons ?_ ?_ (by rfl)
  exact FF.w_var rfl (by first | exact .inl rfl | exact .inr (.inl rfl) | exact .inr (.inr rfl)) (by decide) (by decide)
  refine FF.w_acons ?_ ?_ (by rfl)
  exact FF.w_bool
  exact FF.w_anil
  exact FF.w_var rfl (by first | exact .inl rfl | exact .inr (.inl rfl) | exact .inr (.inr rfl)) (by decide) (by decide)
  refine FF.w_lst ?_
  exact FF.w_anil
  refine FF.w_cons ?_ ?_
  refine FF.w_ret ?_
  exact FF.w_bool
  exact FF.w_nil
  exact FF.w_nil
  refine FF.w_cons ?_ ?_
  refine FF.w_asg ?_ ?_ (by rfl) (by rfl) (by rfl)
  refine FF.w_lst ?_
  refine FF.w_acons ?_ ?_ (by rfl)
  exact FF.w_opq0 (by assumption) (by assumption) (by rfl) (by rfl) (by decide)
  refine FF.w_acons ?_ ?_ (by rfl)
  refine FF.w_make (by assumption) (by assumption) (by assumption) (by rfl) ?_ (by decide) (by rfl) (by rfl)
  refine FF.w_tup ?_
  refine FF.w_acons ?_ ?_ (by rfl)
  refine FF.w_tup ?_
  refine FF.w_acons ?_ ?_ (by rfl)
  exact FF.w_int
  refine FF.w_acons ?_ ?_ (by rfl)
  exact FF.w_int
  exact FF.w_anil
  refine FF.w_acons ?_ ?_ (by rfl)
  refine FF.w_tup ?_
  refine FF.w_acons ?_ ?_ (by rfl)
  exact FF.w_int
  refine FF.w_acons ?_ ?_ (by rfl)
  exact FF.w_int
  exact FF.w_anil
  exact FF.w_anil
  exact FF.w_anil
  exact FF.sg_name (by assumption) rfl (by first | exact .inl rfl | exact .inr rfl) (by first | exact .inl rfl | exact .inr rfl)
  refine FF.w_cons ?_ ?_
  refine FF.w_asg ?_ ?_ (by rfl) (by rfl) (by rfl)
  refine FF.w_lst ?_
  exact FF.w_anil
  exact FF.sg_name (by assumption) rfl (by first | exact .inl rfl | exact .inr rfl) (by first | exact .inl rfl | exact .inr rfl)
  refine FF.w_cons ?_ ?_
  refine FF.w_for rfl PassesOwn.never ?_ ?_ ?_ (by intro _; rfl)
  refine FF.w_iex ?_
  exact FF.w_var rfl (by first | exact .inl rfl | exact .inr (.inl rfl) | exact .inr (.inr rfl)) (by decide) (by decide)
  exact FF.sg_name (by assumption) rfl (by first | exact .inl rfl | exact .inr rfl) (by first | exact .inl rfl | exact .inr rfl)
  refine FF.w_cons ?_ ?_
  refine FF.w_expr ?_ (by rfl)
  refine FF.w_bm PySem.F.slot_list_append PySem.F.type_list_append FF.mt_appendD FF.fit_append (fun _ _ _ => rfl) ?_ ?_ (by rfl) (by rfl) (by rfl) (by rfl) (by rfl)
  exact FF.w_var rfl (by first | exact .inl rfl | exact .inr (.inl rfl) | exact .inr (.inr rfl)) (by decide) (by decide)
  refine FF.w_acons ?_ ?_ (by rfl)
  refine FF.w_lst ?_
  refine FF.w_acons ?_ ?_ (by rfl)
  refine FF.w_call (by assumption) (by assumption) (by assumption) (by rfl) (by intro _ _ _ _ _ _; exact FF.ar1 (fun _ => rfl)) ?_ (by decide) (by rfl) (by rfl)
  refine FF.w_acons ?_ ?_ (by rfl)
  exact FF.w_var rfl (by first | exact .inl rfl | exact .inr (.inl rfl) | exact .inr (.inr rfl)) (by decide) (by decide)
  exact FF.w_anil
  refine FF.w_acons ?_ ?_ (by rfl)
  refine FF.w_call (by assumption) (by assumption) (by assumption) (by rfl) (by intro _ _ _ _ _ _; exact FF.ar1 (fun _ => rfl)) ?_ (by decide) (by rfl) (by rfl)
  refine FF.w_acons ?_ ?_ (by rfl)
  refine FF.w_tup ?_
  refine FF.w_acons ?_ ?_ (by rfl)
  refine FF.w_tup ?_
  refine FF.w_acons ?_ ?_ (by rfl)
  exact FF.w_int
  refine FF.w_acons ?_ ?_ (by rfl)
  exact FF.w_int
  exact FF.w_anil
  refine FF.w_acons ?_ ?_ (by rfl)
  exact FF.w_var rfl (by first | exact .inl rfl | exact .inr (.inl rfl) | exact .inr (.inr rfl)) (by decide) (by decide)
  exact FF.w_anil
  exact FF.w_anil
  refine FF.w_acons ?_ ?_ (by rfl)
  refine FF.w_call (by assumption) (by assumption) (by assumption) (by rfl) (by intro _ _ _ _ _ _; exact FF.ar1 (fun _ => rfl)) ?_ (by decide) (by rfl) (by rfl)
  refine FF.w_acons ?_ ?_ (by rfl)
  refine FF.w_tup ?_
  refine FF.w_acons ?_ ?_ (by rfl)
  refine FF.w_tup ?_
  refine FF.w_acons ?_ ?_ (by rfl)
  exact FF.w_var rfl (by first | exact .inl rfl | exact .inr (.inl rfl) | exact .inr (.inr rfl)) (by decide) (by decide)
  refine FF.w_acons ?_ ?_ (by rfl)
  exact FF.w_int
  exact FF.w_anil
  exact FF.w_anil
  exact FF.w_anil
  refine FF.w_acons ?_ ?_ (by rfl)
  refine FF.w_call (by assumption) (by assumption) (by assumption) (by rfl) (by intro _ _ _ _ _ _; exact FF.ar1 (fun _ => rfl)) ?_ (by decide) (by rfl) (by rfl)
  refine FF.w_acons ?_ ?_ (by rfl)
  refine FF.w_tup ?_
  refine FF.w_acons ?_ ?_ (by rfl)
  refine FF.w_tup ?_
  refine FF.w_acons ?_ ?_ (by rfl)
  exact FF.w_int
  refine FF.w_acons ?_ ?_ (by rfl)
  exact FF.w_var rfl (by first | exact .inl rfl | exact .inr (.inl rfl) | exact .inr (.inr rfl)) (by decide) (by decide)
  exact FF.w_anil
  exact FF.w_anil
  exact FF.w_anil
  exact FF.w_anil
  exact FF.w_anil
  exact FF.w_nil
  refine FF.w_cons ?_ ?_
  refine FF.w_ret ?_
  refine FF.w_cmp (by exact FF.un_of ‹Room _ _› (by decide)) ?_ ?_ (by rfl)
  refine FF.w_cb (FF.cb_repr (by assumption) (by exact FF.un_of ‹Room _ _› (by decide))) (by rfl) (by assumption) PyProof.Rows.boot_repr ?_ (by decide) (by decide) (by rfl) (by rfl)
  refine FF.w_acons ?_ ?_ (by rfl)
  exact FF.w_var rfl (by first | exact .inl rfl | exact .inr (.inl rfl) | exact .inr (.inr rfl)) (by decide) (by decide)
  exact FF.w_anil
  refine FF.w_cb (FF.cb_repr (by assumption) (by exact FF.un_of ‹Room _ _› (by decide))) (by rfl) (by assumption) PyProof.Rows.boot_repr ?_ (by decide) (by decide) (by rfl) (by rfl)
  refine FF.w_acons ?_ ?_ (by rfl)
  refine FF.w_bin ?_ ?_
  refine FF.w_lst ?_
  refine FF.w_acons ?_ ?_ (by rfl)
  refine FF.w_lst ?_
  refine FF.w_acons ?_ ?_ (by rfl)
  exact FF.w_str
  refine FF.w_acons ?_ ?_ (by rfl)
  refine FF.w_tup ?_
  refine FF.w_acons ?_ ?_ (by rfl)
  exact FF.w_str
  refine FF.w_acons ?_ ?_ (by rfl)
  exact FF.w_int
  exact FF.w_anil
  refine FF.w_acons ?_ ?_ (by rfl)
  refine FF.w_tup ?_
  refine FF.w_acons ?_ ?_ (by rfl)
  exact FF.w_str
  refine FF.w_acons ?_ ?_ (by rfl)
  exact FF.w_int
  exact FF.w_anil
  refine FF.w_acons ?_ ?_ (by rfl)
  refine FF.w_tup ?_
  refine FF.w_acons ?_ ?_ (by rfl)
  exact FF.w_str
  refine FF.w_acons ?_ ?_ (by rfl)
  exact FF.w_int
  exact FF.w_anil
  exact FF.w_anil
  exact FF.w_anil
  exact FF.w_int
  exact FF.w_anil
  exact FF.w_nil
theorem S_Desk : FnScope ["self", "book", "error"] ["self", "book"] (defScope s_Desk) := C8.fnScope_by (by decide +kernel)
theorem b_Desk {k : Nat} {fbe : List D → Hq → R (D × Hq)} (Cb : Cal P w K mg base k fbe s_book_error "book_error" ["value"]) (C : Addr) (cl : Cls K C) (a1 : NoAttr K C "books") (a2 : NoAttr K C "edits") (a3 : NoAttr K C "taken_back") (f : Addr) (cdv : Value) (A : Around) (outer : List Env) (s : Shared) (H : Hp) (hgd : A.guards = some []) (hr : Room k (A.deeper (envOfC "Desk.__init__" (defScope s_Desk) s.heap.objs.size f cdv))) :
    PSs (Xb P w K mg base ["self", "book", "error"] "Desk.__init__" (defScope s_Desk) f cdv A outer s H) (defBody s_Desk) (tDesk K C fbe) := by
  have nd : (["self", "book", "error"] : List Str).Nodup := by decide +kernel
  exact pss_desk (X := Xb P w K mg base ["self", "book", "error"] "Desk.__init__" (defScope s_Desk) f cdv A outer s H) Cb (by assumption) (by assumption) (by rfl) (by intro _ _ _ _ _ _; exact FF.ar1 (fun _ => rfl)) nd rfl rfl rfl (by first | exact .inl rfl | exact .inr (.inl rfl) | exact .inr (.inr rfl)) (by first | exact .inl rfl | exact .inr (.inl rfl) | exact .inr (.inr rfl)) (by first | exact .inl rfl | exact .inr (.inl rfl) | exact .inr (.inr rfl)) (by first | exact .inl rfl | exact .inr rfl) (by first | exact .inl rfl | exact .inr rfl) (by rfl) (by rfl) (by rfl) (by rfl) (by rfl) (by rfl) (by rfl) (by rfl) (by rfl) cl a1 a2 a3
structure All (P : Program) (w : World) (K : PySem.W.Frag) (mg : Str → Option Value) (base : Heap) (k : Nat) : Prop where
  c_q_law_reel : Cal P w K mg base k (run tbl k 1) s_q_law_reel "_law_reel" ["script"]
  c_q_law_draw : Cal P w K mg base k (run tbl k 2) s_q_law_draw "_law_draw" ["reel", "many"]
  c_q_law_pick : Cal P w K mg base k (run tbl k 3) s_q_law_pick "_law_pick" ["reel", "things"]
  c_q_law_size : Cal P w K mg base k (run tbl k 4) s_q_law_size "_law_size" ["reel", "step"]
  c_q_law_book : Cal P w K mg base k (run tbl k 5) s_q_law_book "_law_book" ["reel", "many"]
  c_is_tuple : Cal P w K mg base k (run tbl k 83) s_is_tuple "is_tuple" ["value", "most"]
  c_is_integer : Cal P w K mg base k (run tbl k 84) s_is_integer "is_integer" ["value"]
  c_is_within : Cal P w K mg base k (run tbl k 85) s_is_within "is_within" ["value", "least", "most"]
  c_is_size : Cal P w K mg base k (run tbl k 86) s_is_size "is_size" ["value"]
  c_is_alignment : Cal P w K mg base k (run tbl k 87) s_is_alignment "is_alignment" ["value"]
  c_is_kind : Cal P w K mg base k (run tbl k 88) s_is_kind "is_kind" ["value"]
  c_book_error : Cal P w K mg base k (run tbl k 89) s_book_error "book_error" ["value"]
  c_q_law_mixed : Cal P w K mg base k (run tbl k 18) s_q_law_mixed "_law_mixed" ["reel", "things"]
  c_q_law_far : Cal P w K mg base k (run tbl k 156) s_q_law_far "_law_far" []
  c_q_law_odd_kind : Cal P w K mg base k (run tbl k 157) s_q_law_odd_kind "_law_odd_kind" ["reel", "kind"]
  c_q_law_spoilt : Cal P w K mg base k (run tbl k 158) s_q_law_spoilt "_law_spoilt" ["reel", "book"]
  c_q_law_is_int : Cal P w K mg base k (run tbl k 159) s_q_law_is_int "_law_is_int" ["value", "low", "high"]
  c_q_law_is_kind : Cal P w K mg base k (run tbl k 160) s_q_law_is_kind "_law_is_kind" ["value"]
  c_q_law_fault : Cal P w K mg base k (run tbl k 161) s_q_law_fault "_law_fault" ["value"]
  c_q_law_is_told : Cal P w K mg base k (run tbl k 162) s_q_law_is_told "_law_is_told" ["value", "is_named"]
  c_law : Cal P w K mg base k (run tbl k 163) s_law "law" ["script"]
  i_Desk : DeskO P w K mg base k (run tbl k 9000) "Desk"
  o_Desk : MakeO P w K mg base k (run tbl k 9001) "Desk"
theorem all_ok {C_Unfit : Addr}
    (D_q_law_reel : DefIn K mg s_q_law_reel "_law_reel")
    (D_q_law_draw : DefIn K mg s_q_law_draw "_law_draw")
    (D_q_law_pick : DefIn K mg s_q_law_pick "_law_pick")
    (D_q_law_size : DefIn K mg s_q_law_size "_law_size")
    (D_q_law_book : DefIn K mg s_q_law_book "_law_book")
    (D_is_tuple : DefIn K mg s_is_tuple "is_tuple")
    (D_is_integer : DefIn K mg s_is_integer "is_integer")
    (D_is_within : DefIn K mg s_is_within "is_within")
    (D_is_size : DefIn K mg s_is_size "is_size")
    (D_is_alignment : DefIn K mg s_is_alignment "is_alignment")
    (D_is_kind : DefIn K mg s_is_kind "is_kind")
    (D_book_error : DefIn K mg s_book_error "book_error")
    (D_q_law_mixed : DefIn K mg s_q_law_mixed "_law_mixed")
    (D_q_law_far : DefIn K mg s_q_law_far "_law_far")
    (D_q_law_odd_kind : DefIn K mg s_q_law_odd_kind "_law_odd_kind")
    (D_q_law_spoilt : DefIn K mg s_q_law_spoilt "_law_spoilt")
    (D_q_law_is_int : DefIn K mg s_q_law_is_int "_law_is_int")
    (D_q_law_is_kind : DefIn K mg s_q_law_is_kind "_law_is_kind")
    (D_q_law_fault : DefIn K mg s_q_law_fault "_law_fault")
    (D_q_law_is_told : DefIn K mg s_q_law_is_told "_law_is_told")
    (D_law : DefIn K mg s_law "law")
    (m_bool : mg "bool" = none)
    (m_enumerate : mg "enumerate" = none)
    (m_int : mg "int" = none)
    (m_isinstance : mg "isinstance" = none)
    (m_len : mg "len" = none)
    (m_list : mg "list" = none)
    (m_max : mg "max" = none)
    (m_min : mg "min" = none)
    (m_range : mg "range" = none)
    (m_repr : mg "repr" = none)
    (m_str : mg "str" = none)
    (m_tuple : mg "tuple" = none)
    (g_ALIGNMENTS : GK K mg "ALIGNMENTS" [1, 2, 4, 8, 16, 32, 64])
    (g_MAX_KINDS : GI mg "MAX_KINDS" 6)
    (g_MAX_SIZE : GI mg "MAX_SIZE" 1000000000000000000000000000000)
    (e_Unfit : Err0 K mg "Unfit" C_Unfit)
    (n4_Unfit : N4 K C_Unfit)
    (DD : DeskIn K mg s_Desk "Desk.__init__" "Desk")
    : ∀ k, All P w K mg base k
  | 0 => ⟨cal_zero D_q_law_reel, cal_zero D_q_law_draw, cal_zero D_q_law_pick, cal_zero D_q_law_size, cal_zero D_q_law_book, cal_zero D_is_tuple, cal_zero D_is_integer, cal_zero D_is_within, cal_zero D_is_size, cal_zero D_is_alignment, cal_zero D_is_kind, cal_zero D_book_error, cal_zero D_q_law_mixed, cal_zero D_q_law_far, cal_zero D_q_law_odd_kind, cal_zero D_q_law_spoilt, cal_zero D_q_law_is_int, cal_zero D_q_law_is_kind, cal_zero D_q_law_fault, cal_zero D_q_law_is_told, cal_zero D_law, deskO_zero (ps := ["self", "book"]) DD (by intro _ _ _ _ _ _; exact FF.ar2 (fun _ _ => rfl)), makeO_zero⟩
  | k + 1 => by
    have I := all_ok D_q_law_reel D_q_law_draw D_q_law_pick D_q_law_size D_q_law_book D_is_tuple D_is_integer D_is_within D_is_size D_is_alignment D_is_kind D_book_error D_q_law_mixed D_q_law_far D_q_law_odd_kind D_q_law_spoilt D_q_law_is_int D_q_law_is_kind D_q_law_fault D_q_law_is_told D_law m_bool m_enumerate m_int m_isinstance m_len m_list m_max m_min m_range m_repr m_str m_tuple g_ALIGNMENTS g_MAX_KINDS g_MAX_SIZE e_Unfit n4_Unfit DD k
    exact ⟨
      (cal_succ D_q_law_reel S_q_law_reel rfl rfl (b_q_law_reel  m_len m_int  ) : Cal P w K mg base (k + 1) (runDef (run tbl k) d_q_law_reel) _ _ _),
      (cal_succ D_q_law_draw S_q_law_draw rfl rfl (b_q_law_draw  m_range m_int m_len  ) : Cal P w K mg base (k + 1) (runDef (run tbl k) d_q_law_draw) _ _ _),
      (cal_succ D_q_law_pick S_q_law_pick rfl rfl (b_q_law_pick I.c_q_law_draw m_len  ) : Cal P w K mg base (k + 1) (runDef (run tbl k) d_q_law_pick) _ _ _),
      (cal_succ D_q_law_size S_q_law_size rfl rfl (b_q_law_size I.c_q_law_draw I.c_q_law_pick m_min m_max  ) : Cal P w K mg base (k + 1) (runDef (run tbl k) d_q_law_size) _ _ _),
      (cal_succ D_q_law_book S_q_law_book rfl rfl (b_q_law_book I.c_q_law_pick I.c_q_law_size I.c_q_law_draw m_range m_tuple  ) : Cal P w K mg base (k + 1) (runDef (run tbl k) d_q_law_book) _ _ _),
      (cal_succ D_is_tuple S_is_tuple rfl rfl (b_is_tuple  m_isinstance m_tuple m_len  ) : Cal P w K mg base (k + 1) (runDef (run tbl k) d_is_tuple) _ _ _),
      (cal_succ D_is_integer S_is_integer rfl rfl (b_is_integer  m_isinstance m_int m_bool  ) : Cal P w K mg base (k + 1) (runDef (run tbl k) d_is_integer) _ _ _),
      (cal_succ D_is_within S_is_within rfl rfl (b_is_within I.c_is_integer   ) : Cal P w K mg base (k + 1) (runDef (run tbl k) d_is_within) _ _ _),
      (cal_succ D_is_size S_is_size rfl rfl (b_is_size I.c_is_within  g_MAX_SIZE ) : Cal P w K mg base (k + 1) (runDef (run tbl k) d_is_size) _ _ _),
      (cal_succ D_is_alignment S_is_alignment rfl rfl (b_is_alignment I.c_is_integer  g_ALIGNMENTS ) : Cal P w K mg base (k + 1) (runDef (run tbl k) d_is_alignment) _ _ _),
      (cal_succ D_is_kind S_is_kind rfl rfl (b_is_kind I.c_is_alignment I.c_is_size m_isinstance m_tuple m_len  ) : Cal P w K mg base (k + 1) (runDef (run tbl k) d_is_kind) _ _ _),
      (cal_succ D_book_error S_book_error rfl rfl (b_book_error I.c_is_tuple I.c_is_kind m_enumerate g_MAX_KINDS ) : Cal P w K mg base (k + 1) (runDef (run tbl k) d_book_error) _ _ _),
      (cal_succ D_q_law_mixed S_q_law_mixed rfl rfl (b_q_law_mixed I.c_q_law_draw m_list m_len  ) : Cal P w K mg base (k + 1) (runDef (run tbl k) d_q_law_mixed) _ _ _),
      (cal_succ D_q_law_far S_q_law_far rfl rfl (b_q_law_far  m_range  ) : Cal P w K mg base (k + 1) (runDef (run tbl k) d_q_law_far) _ _ _),
      (cal_succ D_q_law_odd_kind S_q_law_odd_kind rfl rfl (b_q_law_odd_kind I.c_q_law_far I.c_q_law_pick m_str  ) : Cal P w K mg base (k + 1) (runDef (run tbl k) d_q_law_odd_kind) _ _ _),
      (cal_succ D_q_law_spoilt S_q_law_spoilt rfl rfl (b_q_law_spoilt I.c_q_law_draw I.c_q_law_pick I.c_q_law_odd_kind m_len m_list  ) : Cal P w K mg base (k + 1) (runDef (run tbl k) d_q_law_spoilt) _ _ _),
      (cal_succ D_q_law_is_int S_q_law_is_int rfl rfl (b_q_law_is_int  m_isinstance m_int m_bool  ) : Cal P w K mg base (k + 1) (runDef (run tbl k) d_q_law_is_int) _ _ _),
      (cal_succ D_q_law_is_kind S_q_law_is_kind rfl rfl (b_q_law_is_kind I.c_q_law_is_int m_isinstance m_tuple m_len  ) : Cal P w K mg base (k + 1) (runDef (run tbl k) d_q_law_is_kind) _ _ _),
      (cal_succ D_q_law_fault S_q_law_fault rfl rfl (b_q_law_fault I.c_q_law_is_kind m_enumerate m_isinstance m_tuple m_len  ) : Cal P w K mg base (k + 1) (runDef (run tbl k) d_q_law_fault) _ _ _),
      (cal_succ D_q_law_is_told S_q_law_is_told rfl rfl (b_q_law_is_told I.c_q_law_fault I.c_book_error m_repr  ) : Cal P w K mg base (k + 1) (runDef (run tbl k) d_q_law_is_told) _ _ _),
      (cal_succ D_law S_law rfl rfl (b_law I.c_q_law_reel I.c_q_law_book I.c_q_law_draw I.c_q_law_spoilt I.c_q_law_mixed I.c_q_law_odd_kind I.c_q_law_is_told I.c_book_error m_range m_repr m_tuple m_list m_enumerate  e_Unfit n4_Unfit I.o_Desk) : Cal P w K mg base (k + 1) (runDef (run tbl k) d_law) _ _ _),
      (deskO_succ (N := ["self", "book", "error"]) (ps := ["self", "book"]) DD S_Desk rfl rfl (by intro _ _ _ _ _ _; exact FF.ar2 (fun _ _ => rfl)) (fun C cl a1 a2 a3 f cdv A outer s H hgd hr => b_Desk I.c_book_error C cl a1 a2 a3 f cdv A outer s H hgd hr) : DeskO P w K mg base (k + 1) (runDef (run tbl k) (dInit 89)) _),
      (makeO_succ I.i_Desk : MakeO P w K mg base (k + 1) (runDef (run tbl k) (dMake 9000)) _)⟩
theorem head_mk {l : PySem.W.OpenLaw} {h : Heap} {fa f0 f1 f2 f3 f4 f5 f6 f7 f8 f9 f10 f11 f12 f13 f14 f15 f16 f17 f18 f19 f20 : Addr} (X : K.In h) (G : h.Ns mainGlobals mg) (hfa : mg "law" = some (.ref fa))
    {od0 an0 od1 an1 od2 an2 od3 an3 od4 an4 od5 an5 od6 an6 od7 an7 od8 an8 od9 an9 od10 an10 od11 an11 od12 an12 od13 an13 od14 an14 od15 an15 od16 an16 od17 an17 od18 an18 od19 an19 od20 an20 : Option Addr} {sl0 sl1 sl2 sl3 sl4 sl5 sl6 sl7 sl8 sl9 sl10 sl11 sl12 sl13 sl14 sl15 sl16 sl17 sl18 sl19 sl20 : Array (Option Value)} {oc0 kV0 dc0 pm0 cd0 ct0 oc1 kV1 dc1 pm1 cd1 ct1 oc2 kV2 dc2 pm2 cd2 ct2 oc3 kV3 dc3 pm3 cd3 ct3 oc4 kV4 dc4 pm4 cd4 ct4 oc5 kV5 dc5 pm5 cd5 ct5 oc6 kV6 dc6 pm6 cd6 ct6 oc7 kV7 dc7 pm7 cd7 ct7 oc8 kV8 dc8 pm8 cd8 ct8 oc9 kV9 dc9 pm9 cd9 ct9 oc10 kV10 dc10 pm10 cd10 ct10 oc11 kV11 dc11 pm11 cd11 ct11 oc12 kV12 dc12 pm12 cd12 ct12 oc13 kV13 dc13 pm13 cd13 ct13 oc14 kV14 dc14 pm14 cd14 ct14 oc15 kV15 dc15 pm15 cd15 ct15 oc16 kV16 dc16 pm16 cd16 ct16 oc17 kV17 dc17 pm17 cd17 ct17 oc18 kV18 dc18 pm18 cd18 ct18 oc19 kV19 dc19 pm19 cd19 ct19 oc20 kV20 dc20 pm20 cd20 ct20 : Value}
    (a0 : PySem.W.nsIn K mainGlobals "_law_reel" = some (some (.ref f0))) (l0 : K.lookup f0 = some ⟨oc0, od0, .func (PySem.W.fnOf "_law_reel" "_law_reel" (defArgs s_q_law_reel) (defBody s_q_law_reel) (defScope s_q_law_reel) .none kV0 dc0 pm0 an0 cd0 ct0), sl0⟩) (c0 : PySem.W.codeIn K cd0 "_law_reel" = true) (k0 : PySem.W.keepIn K (.ref f0) = true)
    (a1 : PySem.W.nsIn K mainGlobals "_law_draw" = some (some (.ref f1))) (l1 : K.lookup f1 = some ⟨oc1, od1, .func (PySem.W.fnOf "_law_draw" "_law_draw" (defArgs s_q_law_draw) (defBody s_q_law_draw) (defScope s_q_law_draw) .none kV1 dc1 pm1 an1 cd1 ct1), sl1⟩) (c1 : PySem.W.codeIn K cd1 "_law_draw" = true) (k1 : PySem.W.keepIn K (.ref f1) = true)
    (a2 : PySem.W.nsIn K mainGlobals "_law_pick" = some (some (.ref f2))) (l2 : K.lookup f2 = some ⟨oc2, od2, .func (PySem.W.fnOf "_law_pick" "_law_pick" (defArgs s_q_law_pick) (defBody s_q_law_pick) (defScope s_q_law_pick) .none kV2 dc2 pm2 an2 cd2 ct2), sl2⟩) (c2 : PySem.W.codeIn K cd2 "_law_pick" = true) (k2 : PySem.W.keepIn K (.ref f2) = true)
    (a3 : PySem.W.nsIn K mainGlobals "_law_size" = some (some (.ref f3))) (l3 : K.lookup f3 = some ⟨oc3, od3, .func (PySem.W.fnOf "_law_size" "_law_size" (defArgs s_q_law_size) (defBody s_q_law_size) (defScope s_q_law_size) .none kV3 dc3 pm3 an3 cd3 ct3), sl3⟩) (c3 : PySem.W.codeIn K cd3 "_law_size" = true) (k3 : PySem.W.keepIn K (.ref f3) = true)
    (a4 : PySem.W.nsIn K mainGlobals "_law_book" = some (some (.ref f4))) (l4 : K.lookup f4 = some ⟨oc4, od4, .func (PySem.W.fnOf "_law_book" "_law_book" (defArgs s_q_law_book) (defBody s_q_law_book) (defScope s_q_law_book) .none kV4 dc4 pm4 an4 cd4 ct4), sl4⟩) (c4 : PySem.W.codeIn K cd4 "_law_book" = true) (k4 : PySem.W.keepIn K (.ref f4) = true)
    (a5 : PySem.W.nsIn K mainGlobals "is_tuple" = some (some (.ref f5))) (l5 : K.lookup f5 = some ⟨oc5, od5, .func (PySem.W.fnOf "is_tuple" "is_tuple" (defArgs s_is_tuple) (defBody s_is_tuple) (defScope s_is_tuple) .none kV5 dc5 pm5 an5 cd5 ct5), sl5⟩) (c5 : PySem.W.codeIn K cd5 "is_tuple" = true) (k5 : PySem.W.keepIn K (.ref f5) = true)
    (a6 : PySem.W.nsIn K mainGlobals "is_integer" = some (some (.ref f6))) (l6 : K.lookup f6 = some ⟨oc6, od6, .func (PySem.W.fnOf "is_integer" "is_integer" (defArgs s_is_integer) (defBody s_is_integer) (defScope s_is_integer) .none kV6 dc6 pm6 an6 cd6 ct6), sl6⟩) (c6 : PySem.W.codeIn K cd6 "is_integer" = true) (k6 : PySem.W.keepIn K (.ref f6) = true)
    (a7 : PySem.W.nsIn K mainGlobals "is_within" = some (some (.ref f7))) (l7 : K.lookup f7 = some ⟨oc7, od7, .func (PySem.W.fnOf "is_within" "is_within" (defArgs s_is_within) (defBody s_is_within) (defScope s_is_within) .none kV7 dc7 pm7 an7 cd7 ct7), sl7⟩) (c7 : PySem.W.codeIn K cd7 "is_within" = true) (k7 : PySem.W.keepIn K (.ref f7) = true)
    (a8 : PySem.W.nsIn K mainGlobals "is_size" = some (some (.ref f8))) (l8 : K.lookup f8 = some ⟨oc8, od8, .func (PySem.W.fnOf "is_size" "is_size" (defArgs s_is_size) (defBody s_is_size) (defScope s_is_size) .none kV8 dc8 pm8 an8 cd8 ct8), sl8⟩) (c8 : PySem.W.codeIn K cd8 "is_size" = true) (k8 : PySem.W.keepIn K (.ref f8) = true)
    (a9 : PySem.W.nsIn K mainGlobals "is_alignment" = some (some (.ref f9))) (l9 : K.lookup f9 = some ⟨oc9, od9, .func (PySem.W.fnOf "is_alignment" "is_alignment" (defArgs s_is_alignment) (defBody s_is_alignment) (defScope s_is_alignment) .none kV9 dc9 pm9 an9 cd9 ct9), sl9⟩) (c9 : PySem.W.codeIn K cd9 "is_alignment" = true) (k9 : PySem.W.keepIn K (.ref f9) = true)
    (a10 : PySem.W.nsIn K mainGlobals "is_kind" = some (some (.ref f10))) (l10 : K.lookup f10 = some ⟨oc10, od10, .func (PySem.W.fnOf "is_kind" "is_kind" (defArgs s_is_kind) (defBody s_is_kind) (defScope s_is_kind) .none kV10 dc10 pm10 an10 cd10 ct10), sl10⟩) (c10 : PySem.W.codeIn K cd10 "is_kind" = true) (k10 : PySem.W.keepIn K (.ref f10) = true)
    (a11 : PySem.W.nsIn K mainGlobals "book_error" = some (some (.ref f11))) (l11 : K.lookup f11 = some ⟨oc11, od11, .func (PySem.W.fnOf "book_error" "book_error" (defArgs s_book_error) (defBody s_book_error) (defScope s_book_error) .none kV11 dc11 pm11 an11 cd11 ct11), sl11⟩) (c11 : PySem.W.codeIn K cd11 "book_error" = true) (k11 : PySem.W.keepIn K (.ref f11) = true)
    (a12 : PySem.W.nsIn K mainGlobals "_law_mixed" = some (some (.ref f12))) (l12 : K.lookup f12 = some ⟨oc12, od12, .func (PySem.W.fnOf "_law_mixed" "_law_mixed" (defArgs s_q_law_mixed) (defBody s_q_law_mixed) (defScope s_q_law_mixed) .none kV12 dc12 pm12 an12 cd12 ct12), sl12⟩) (c12 : PySem.W.codeIn K cd12 "_law_mixed" = true) (k12 : PySem.W.keepIn K (.ref f12) = true)
    (a13 : PySem.W.nsIn K mainGlobals "_law_far" = some (some (.ref f13))) (l13 : K.lookup f13 = some ⟨oc13, od13, .func (PySem.W.fnOf "_law_far" "_law_far" (defArgs s_q_law_far) (defBody s_q_law_far) (defScope s_q_law_far) .none kV13 dc13 pm13 an13 cd13 ct13), sl13⟩) (c13 : PySem.W.codeIn K cd13 "_law_far" = true) (k13 : PySem.W.keepIn K (.ref f13) = true)
    (a14 : PySem.W.nsIn K mainGlobals "_law_odd_kind" = some (some (.ref f14))) (l14 : K.lookup f14 = some ⟨oc14, od14, .func (PySem.W.fnOf "_law_odd_kind" "_law_odd_kind" (defArgs s_q_law_odd_kind) (defBody s_q_law_odd_kind) (defScope s_q_law_odd_kind) .none kV14 dc14 pm14 an14 cd14 ct14), sl14⟩) (c14 : PySem.W.codeIn K cd14 "_law_odd_kind" = true) (k14 : PySem.W.keepIn K (.ref f14) = true)
    (a15 : PySem.W.nsIn K mainGlobals "_law_spoilt" = some (some (.ref f15))) (l15 : K.lookup f15 = some ⟨oc15, od15, .func (PySem.W.fnOf "_law_spoilt" "_law_spoilt" (defArgs s_q_law_spoilt) (defBody s_q_law_spoilt) (defScope s_q_law_spoilt) .none kV15 dc15 pm15 an15 cd15 ct15), sl15⟩) (c15 : PySem.W.codeIn K cd15 "_law_spoilt" = true) (k15 : PySem.W.keepIn K (.ref f15) = true)
    (a16 : PySem.W.nsIn K mainGlobals "_law_is_int" = some (some (.ref f16))) (l16 : K.lookup f16 = some ⟨oc16, od16, .func (PySem.W.fnOf "_law_is_int" "_law_is_int" (defArgs s_q_law_is_int) (defBody s_q_law_is_int) (defScope s_q_law_is_int) .none kV16 dc16 pm16 an16 cd16 ct16), sl16⟩) (c16 : PySem.W.codeIn K cd16 "_law_is_int" = true) (k16 : PySem.W.keepIn K (.ref f16) = true)
    (a17 : PySem.W.nsIn K mainGlobals "_law_is_kind" = some (some (.ref f17))) (l17 : K.lookup f17 = some ⟨oc17, od17, .func (PySem.W.fnOf "_law_is_kind" "_law_is_kind" (defArgs s_q_law_is_kind) (defBody s_q_law_is_kind) (defScope s_q_law_is_kind) .none kV17 dc17 pm17 an17 cd17 ct17), sl17⟩) (c17 : PySem.W.codeIn K cd17 "_law_is_kind" = true) (k17 : PySem.W.keepIn K (.ref f17) = true)
    (a18 : PySem.W.nsIn K mainGlobals "_law_fault" = some (some (.ref f18))) (l18 : K.lookup f18 = some ⟨oc18, od18, .func (PySem.W.fnOf "_law_fault" "_law_fault" (defArgs s_q_law_fault) (defBody s_q_law_fault) (defScope s_q_law_fault) .none kV18 dc18 pm18 an18 cd18 ct18), sl18⟩) (c18 : PySem.W.codeIn K cd18 "_law_fault" = true) (k18 : PySem.W.keepIn K (.ref f18) = true)
    (a19 : PySem.W.nsIn K mainGlobals "_law_is_told" = some (some (.ref f19))) (l19 : K.lookup f19 = some ⟨oc19, od19, .func (PySem.W.fnOf "_law_is_told" "_law_is_told" (defArgs s_q_law_is_told) (defBody s_q_law_is_told) (defScope s_q_law_is_told) .none kV19 dc19 pm19 an19 cd19 ct19), sl19⟩) (c19 : PySem.W.codeIn K cd19 "_law_is_told" = true) (k19 : PySem.W.keepIn K (.ref f19) = true)
    (a20 : PySem.W.nsIn K mainGlobals "law" = some (some (.ref f20))) (l20 : K.lookup f20 = some ⟨oc20, od20, .func (PySem.W.fnOf "law" "law" (defArgs s_law) (defBody s_law) (defScope s_law) .none kV20 dc20 pm20 an20 cd20 ct20), sl20⟩) (c20 : PySem.W.codeIn K cd20 "law" = true) (k20 : PySem.W.keepIn K (.ref f20) = true)
    {gp0 : Addr} {gn0 : Nat} {gs0 : Array (Option Value)} {gt0_0 gt0_1 gt0_2 gt0_3 gt0_4 gt0_5 gt0_6 : Tok} (y0 : PySem.W.nsIn K mainGlobals "ALIGNMENTS" = some (some (.ref gp0))) (v0 : K.lookup gp0 = some ⟨.type "tuple", none, .seq #[.int 1 gt0_0, .int 2 gt0_1, .int 4 gt0_2, .int 8 gt0_3, .int 16 gt0_4, .int 32 gt0_5, .int 64 gt0_6] gn0, gs0⟩)
    {gt1 : Tok} (y1 : PySem.W.nsIn K mainGlobals "MAX_KINDS" = some (some (.int 6 gt1)))
    {gt2 : Tok} (y2 : PySem.W.nsIn K mainGlobals "MAX_SIZE" = some (some (.int 1000000000000000000000000000000 gt2)))
    (z0 : PySem.W.nsIn K mainGlobals "bool" = some none)
    (z1 : PySem.W.nsIn K mainGlobals "enumerate" = some none)
    (z2 : PySem.W.nsIn K mainGlobals "int" = some none)
    (z3 : PySem.W.nsIn K mainGlobals "isinstance" = some none)
    (z4 : PySem.W.nsIn K mainGlobals "len" = some none)
    (z5 : PySem.W.nsIn K mainGlobals "list" = some none)
    (z6 : PySem.W.nsIn K mainGlobals "max" = some none)
    (z7 : PySem.W.nsIn K mainGlobals "min" = some none)
    (z8 : PySem.W.nsIn K mainGlobals "range" = some none)
    (z9 : PySem.W.nsIn K mainGlobals "repr" = some none)
    (z10 : PySem.W.nsIn K mainGlobals "str" = some none)
    (z11 : PySem.W.nsIn K mainGlobals "tuple" = some none)
    {C_Unfit : Addr} (xg_Unfit : PySem.W.nsIn K mainGlobals "Unfit" = some (some (.ref C_Unfit)))
    (xa_Unfit : (excCB K C_Unfit && PySem.W.excIn K C_Unfit [.type "ValueError", .type "Exception", .type "BaseException", .type "object"] "ValueError.__new__") = true)
    {C_Desk FI_Desk : Addr} {oc_Desk kV_Desk doc_Desk pm_Desk cd_Desk ct_Desk : Value} {od_Desk an_Desk : Option Addr} {osl_Desk : Array (Option Value)} (xg_Desk : PySem.W.nsIn K mainGlobals "Desk" = some (some (.ref C_Desk)))
    (xi_Desk : PySem.W.findIn K (.ref C_Desk) "__init__" = some (some (.ref FI_Desk))) (xl_Desk : K.lookup FI_Desk = some ⟨oc_Desk, od_Desk, .func (PySem.W.fnOf "__init__" "Desk.__init__" (defArgs s_Desk) (defBody s_Desk) (defScope s_Desk) .none kV_Desk doc_Desk pm_Desk an_Desk cd_Desk ct_Desk), osl_Desk⟩)
    (xc_Desk : PySem.W.codeIn K cd_Desk "Desk.__init__" = true) (xb_Desk : deskB K C_Desk FI_Desk = true) (xs_Desk : PySem.W.findIn K (.ref C_Desk) "__setattr__" = some (some (.builtin "object.__setattr__")))
    (xh_Desk : PySem.W.findIn K (.ref C_Desk) "__class__" = some (some (.builtin "object.__class__"))) (xn_Desk : PySem.W.specialIn K (.builtin "object.__class__") "__get__" = some (some (.builtin "getset_descriptor.__get__")))
    (xp_Desk : PySem.W.findIn K (.ref C_Desk) "books" = some none) (xq_Desk : PySem.W.findIn K (.ref C_Desk) "edits" = some none) (xr_Desk : PySem.W.findIn K (.ref C_Desk) "taken_back" = some none)
    (xw_Unfit : nameB K "Unfit" C_Unfit = true)
    (xn_Unfit : n4B K C_Unfit = true)
    : ∃ fd : FuncData, (∀ (s : Shared) (v : Value), BindsTo s fd ⟨[v], []⟩ [("script", v)]) ∧ ∀ base : Heap, K.In base → base.Ns mainGlobals mg → Fg l.prog w K mg base 8 fa fd ["script"] (spF K (run tbl 8 163)) := by
  have e := hfa.symm.trans (PySem.W.mg_of X G a20)
  cases e
  refine ⟨PySem.W.fnOf "law" "law" (defArgs s_law) (defBody s_law) (defScope s_law) .none kV20 dc20 pm20 an20 cd20 ct20, fun s v => .of_eq rfl, fun base _ _ => ?_⟩
  have D0 : DefIn K mg s_q_law_reel "_law_reel" := ⟨f0, oc0, od0, kV0, dc0, pm0, an0, cd0, ct0, sl0, l0, c0, PySem.W.mg_of X G a0, k0⟩
  have D1 : DefIn K mg s_q_law_draw "_law_draw" := ⟨f1, oc1, od1, kV1, dc1, pm1, an1, cd1, ct1, sl1, l1, c1, PySem.W.mg_of X G a1, k1⟩
  have D2 : DefIn K mg s_q_law_pick "_law_pick" := ⟨f2, oc2, od2, kV2, dc2, pm2, an2, cd2, ct2, sl2, l2, c2, PySem.W.mg_of X G a2, k2⟩
  have D3 : DefIn K mg s_q_law_size "_law_size" := ⟨f3, oc3, od3, kV3, dc3, pm3, an3, cd3, ct3, sl3, l3, c3, PySem.W.mg_of X G a3, k3⟩
  have D4 : DefIn K mg s_q_law_book "_law_book" := ⟨f4, oc4, od4, kV4, dc4, pm4, an4, cd4, ct4, sl4, l4, c4, PySem.W.mg_of X G a4, k4⟩
  have D5 : DefIn K mg s_is_tuple "is_tuple" := ⟨f5, oc5, od5, kV5, dc5, pm5, an5, cd5, ct5, sl5, l5, c5, PySem.W.mg_of X G a5, k5⟩
  have D6 : DefIn K mg s_is_integer "is_integer" := ⟨f6, oc6, od6, kV6, dc6, pm6, an6, cd6, ct6, sl6, l6, c6, PySem.W.mg_of X G a6, k6⟩
  have D7 : DefIn K mg s_is_within "is_within" := ⟨f7, oc7, od7, kV7, dc7, pm7, an7, cd7, ct7, sl7, l7, c7, PySem.W.mg_of X G a7, k7⟩
  have D8 : DefIn K mg s_is_size "is_size" := ⟨f8, oc8, od8, kV8, dc8, pm8, an8, cd8, ct8, sl8, l8, c8, PySem.W.mg_of X G a8, k8⟩
  have D9 : DefIn K mg s_is_alignment "is_alignment" := ⟨f9, oc9, od9, kV9, dc9, pm9, an9, cd9, ct9, sl9, l9, c9, PySem.W.mg_of X G a9, k9⟩
  have D10 : DefIn K mg s_is_kind "is_kind" := ⟨f10, oc10, od10, kV10, dc10, pm10, an10, cd10, ct10, sl10, l10, c10, PySem.W.mg_of X G a10, k10⟩
  have D11 : DefIn K mg s_book_error "book_error" := ⟨f11, oc11, od11, kV11, dc11, pm11, an11, cd11, ct11, sl11, l11, c11, PySem.W.mg_of X G a11, k11⟩
  have D12 : DefIn K mg s_q_law_mixed "_law_mixed" := ⟨f12, oc12, od12, kV12, dc12, pm12, an12, cd12, ct12, sl12, l12, c12, PySem.W.mg_of X G a12, k12⟩
  have D13 : DefIn K mg s_q_law_far "_law_far" := ⟨f13, oc13, od13, kV13, dc13, pm13, an13, cd13, ct13, sl13, l13, c13, PySem.W.mg_of X G a13, k13⟩
  have D14 : DefIn K mg s_q_law_odd_kind "_law_odd_kind" := ⟨f14, oc14, od14, kV14, dc14, pm14, an14, cd14, ct14, sl14, l14, c14, PySem.W.mg_of X G a14, k14⟩
  have D15 : DefIn K mg s_q_law_spoilt "_law_spoilt" := ⟨f15, oc15, od15, kV15, dc15, pm15, an15, cd15, ct15, sl15, l15, c15, PySem.W.mg_of X G a15, k15⟩
  have D16 : DefIn K mg s_q_law_is_int "_law_is_int" := ⟨f16, oc16, od16, kV16, dc16, pm16, an16, cd16, ct16, sl16, l16, c16, PySem.W.mg_of X G a16, k16⟩
  have D17 : DefIn K mg s_q_law_is_kind "_law_is_kind" := ⟨f17, oc17, od17, kV17, dc17, pm17, an17, cd17, ct17, sl17, l17, c17, PySem.W.mg_of X G a17, k17⟩
  have D18 : DefIn K mg s_q_law_fault "_law_fault" := ⟨f18, oc18, od18, kV18, dc18, pm18, an18, cd18, ct18, sl18, l18, c18, PySem.W.mg_of X G a18, k18⟩
  have D19 : DefIn K mg s_q_law_is_told "_law_is_told" := ⟨f19, oc19, od19, kV19, dc19, pm19, an19, cd19, ct19, sl19, l19, c19, PySem.W.mg_of X G a19, k19⟩
  have D20 : DefIn K mg s_law "law" := ⟨fa, oc20, od20, kV20, dc20, pm20, an20, cd20, ct20, sl20, l20, c20, PySem.W.mg_of X G a20, k20⟩
  have m0 := PySem.W.mg_none_of X G z0
  have m1 := PySem.W.mg_none_of X G z1
  have m2 := PySem.W.mg_none_of X G z2
  have m3 := PySem.W.mg_none_of X G z3
  have m4 := PySem.W.mg_none_of X G z4
  have m5 := PySem.W.mg_none_of X G z5
  have m6 := PySem.W.mg_none_of X G z6
  have m7 := PySem.W.mg_none_of X G z7
  have m8 := PySem.W.mg_none_of X G z8
  have m9 := PySem.W.mg_none_of X G z9
  have m10 := PySem.W.mg_none_of X G z10
  have m11 := PySem.W.mg_none_of X G z11
  have g0 : GK K mg "ALIGNMENTS" [1, 2, 4, 8, 16, 32, 64] := ⟨_, PySem.W.mg_of X G y0, ⟨_, _, _, v0, rfl, rfl, (show (7 : Nat) ≤ sizeLine by decide), (.cons ⟨_, rfl⟩ (.cons ⟨_, rfl⟩ (.cons ⟨_, rfl⟩ (.cons ⟨_, rfl⟩ (.cons ⟨_, rfl⟩ (.cons ⟨_, rfl⟩ (.cons ⟨_, rfl⟩ .nil)))))))⟩, _, v0, rfl, rfl⟩
  have g1 : GI mg "MAX_KINDS" 6 := ⟨_, PySem.W.mg_of X G y1⟩
  have g2 : GI mg "MAX_SIZE" 1000000000000000000000000000000 := ⟨_, PySem.W.mg_of X G y2⟩
  have e_Unfit : Err0 K mg "Unfit" C_Unfit := err0_by (PySem.W.mg_of X G xg_Unfit) xa_Unfit xw_Unfit
  have n4_Unfit := n4_by xn_Unfit
  have DD : DeskIn K mg s_Desk "Desk.__init__" "Desk" := deskIn_by (PySem.W.mg_of X G xg_Desk) xi_Desk xl_Desk xc_Desk xb_Desk xs_Desk xh_Desk xn_Desk xp_Desk xq_Desk xr_Desk
  have I : All l.prog w K mg base 7 := all_ok D0 D1 D2 D3 D4 D5 D6 D7 D8 D9 D10 D11 D12 D13 D14 D15 D16 D17 D18 D19 D20 m0 m1 m2 m3 m4 m5 m6 m7 m8 m9 m10 m11 g0 g1 g2 e_Unfit n4_Unfit DD 7
  exact (fg_def l20 c20 S_law rfl rfl (b_law I.c_q_law_reel I.c_q_law_book I.c_q_law_draw I.c_q_law_spoilt I.c_q_law_mixed I.c_q_law_odd_kind I.c_q_law_is_told I.c_book_error m8 m9 m11 m5 m1 e_Unfit n4_Unfit I.o_Desk) : Fg l.prog w K mg base (7 + 1) _ _ _ (spF K (runDef (run tbl 7) d_law)))
end
end FF.k01

/-! Tk01: what is a book. -/
namespace FF.k01
open PySem PySem.Spec L2 FF
/-! ### the law's own look -/
def LIntOk (f : List D → Hq → R (D × Hq)) : Prop := ∀ (v : D) (a b : Int) (h : Hq), vv v = true → Wp (f [v, .int a, .int b] h) fun p => p = (.bl (inW v a b), h)
theorem lint_ok {φ : Fn} : LIntOk (runDef φ d_q_law_is_int) := by
  intro v a b h hv
  refine pure_def rfl rfl (by simp [D.pures, vv_pure hv, D.pure]) rfl ?_
  cases v with
  | int i =>
    refine FF.x_cons ?_
    refine FF.x_ret ?_
    refine FF.x_and ?_
    refine FF.x_bi ?_
    refine FF.x_acons ?_
    refine FF.x_var (by rfl) ?_
    refine FF.x_anil ?_
    refine FF.OkO.of rfl ?_
    refine FF.OkO.of rfl ?_
    refine FF.Cd.tt ?_
    refine FF.x_and ?_
    refine FF.x_not ?_
    refine FF.x_bi ?_
    refine FF.x_acons ?_
    refine FF.x_var (by rfl) ?_
    refine FF.x_anil ?_
    refine FF.OkO.of rfl ?_
    refine FF.OkO.of rfl ?_
    refine FF.OkO.of rfl ?_
    refine FF.Cd.tt ?_
    refine FF.x_cmp2 ?_
    refine FF.x_var (by rfl) ?_
    refine FF.x_var (by rfl) ?_
    refine FF.OkO.of rfl ?_
    try dsimp only [List.set_cons_zero, List.set_cons_succ]
    refine ⟨_, rfl, fun c => ?_, fun c => ?_⟩
    · refine FF.x_var (by rfl) ?_
      refine FF.OkO.of rfl ?_
      refine FF.nxt_rt ?_
      try dsimp only [List.set_cons_zero, List.set_cons_succ]
      refine FF.end_rt ?_
      try dsimp only [List.set_cons_zero, List.set_cons_succ]
      have e : inW (.int i) a b = decide (i ≤ b) := by show (_ && _) = _; rw [c, Bool.true_and]
      rw [e]
      exact thaw1_pure rfl
    · refine FF.nxt_rt ?_
      try dsimp only [List.set_cons_zero, List.set_cons_succ]
      refine FF.end_rt ?_
      try dsimp only [List.set_cons_zero, List.set_cons_succ]
      have e : inW (.int i) a b = false := by show (_ && _) = _; rw [c, Bool.false_and]
      rw [e]
      exact thaw1_pure rfl
  | bl b =>
    refine FF.x_cons ?_
    refine FF.x_ret ?_
    refine FF.x_and ?_
    refine FF.x_bi ?_
    refine FF.x_acons ?_
    refine FF.x_var (by rfl) ?_
    refine FF.x_anil ?_
    refine FF.OkO.of rfl ?_
    refine FF.OkO.of rfl ?_
    refine FF.Cd.tt ?_
    refine FF.x_and ?_
    refine FF.x_not ?_
    refine FF.x_bi ?_
    refine FF.x_acons ?_
    refine FF.x_var (by rfl) ?_
    refine FF.x_anil ?_
    refine FF.OkO.of rfl ?_
    refine FF.OkO.of rfl ?_
    refine FF.OkO.of rfl ?_
    refine FF.Cd.ff ?_
    refine FF.nxt_rt ?_
    try dsimp only [List.set_cons_zero, List.set_cons_succ]
    refine FF.end_rt ?_
    try dsimp only [List.set_cons_zero, List.set_cons_succ]
    exact thaw1_pure rfl
  | kpp _ => cases hv
  | scr _ => cases hv
  | ref _ => cases hv
  | exn _ _ => cases hv
  | opq _ =>
    refine FF.x_cons ?_
    refine FF.x_ret ?_
    refine FF.x_and ?_
    refine FF.x_bi ?_
    refine FF.x_acons ?_
    refine FF.x_var (by rfl) ?_
    refine FF.x_anil ?_
    refine FF.OkO.of rfl ?_
    refine FF.OkO.of rfl ?_
    refine FF.Cd.ff ?_
    refine FF.nxt_rt ?_
    try dsimp only [List.set_cons_zero, List.set_cons_succ]
    refine FF.end_rt ?_
    try dsimp only [List.set_cons_zero, List.set_cons_succ]
    exact thaw1_pure rfl
  | _ =>
    refine FF.x_cons ?_
    refine FF.x_ret ?_
    refine FF.x_and ?_
    refine FF.x_bi ?_
    refine FF.x_acons ?_
    refine FF.x_var (by rfl) ?_
    refine FF.x_anil ?_
    refine FF.OkO.of rfl ?_
    refine FF.OkO.of rfl ?_
    refine FF.Cd.ff ?_
    refine FF.nxt_rt ?_
    try dsimp only [List.set_cons_zero, List.set_cons_succ]
    refine FF.end_rt ?_
    try dsimp only [List.set_cons_zero, List.set_cons_succ]
    exact thaw1_pure rfl
def LKindOk (f : List D → Hq → R (D × Hq)) : Prop := ∀ (v : D) (h : Hq), vv v = true → (∀ ns, v ≠ .ktp ns) → Wp (f [v] h) fun p => p = (.bl (kindW v), h)
theorem al_in {v : D} : (inW v 1 64 && alW v) = alW v := by
  cases v with
  | int n =>
    show (_ && decide _) = decide _
    by_cases h : n ∈ [1, 2, 4, 8, 16, 32, (64 : Int)]
    · rw [decide_eq_true h, Bool.and_true]
      simp only [List.mem_cons, List.not_mem_nil, or_false] at h
      show (decide _ && decide _) = true
      rw [decide_eq_true (by omega), decide_eq_true (by omega)]; rfl
    · rw [decide_eq_false h, Bool.and_false]
  | _ => rfl
theorem lkind_ok {φ : Fn} (h159 : LIntOk (φ 159)) : LKindOk (runDef φ d_q_law_is_kind) := by
  intro v h hv nk
  refine pure_def rfl rfl (by simp [D.pures, vv_pure hv]) rfl ?_
  cases v with
  | tup ds =>
    have vd := vvs_mem (show vvs ds = true from hv)
    refine FF.x_cons ?_
    refine FF.x_ite ?_
    refine FF.x_or ?_
    refine FF.x_not ?_
    refine FF.x_bi ?_
    refine FF.x_acons ?_
    refine FF.x_var (by rfl) ?_
    refine FF.x_anil ?_
    refine FF.OkO.of rfl ?_
    refine FF.OkO.of rfl ?_
    refine FF.OkO.of rfl ?_
    refine FF.Cd.ff ?_
    refine FF.x_or ?_
    refine FF.x_cmp ?_
    refine FF.x_bi ?_
    refine FF.x_acons ?_
    refine FF.x_var (by rfl) ?_
    refine FF.x_anil ?_
    refine FF.OkO.of rfl ?_
    refine FF.x_const ?_
    refine FF.OkO.of rfl ?_
    refine FF.OkO.of rfl ?_
    try dsimp only [List.set_cons_zero, List.set_cons_succ]
    refine ⟨fun c => ?_, fun c => ?_⟩
    · have c0 := c
      have c : ¬ ds.length = 2 := by have c := c; simp at c; omega
      rw [c0]
      refine FF.OkO.of rfl ?_
      refine FF.Cd.tt ?_
      refine FF.x_cons ?_
      refine FF.x_ret ?_
      refine FF.x_const ?_
      refine FF.nxt_rt ?_
      try dsimp only [List.set_cons_zero, List.set_cons_succ]
      refine FF.nxt_rt ?_
      try dsimp only [List.set_cons_zero, List.set_cons_succ]
      refine FF.end_rt ?_
      try dsimp only [List.set_cons_zero, List.set_cons_succ]
      have q : kindW (.tup ds) = false := by
        match ds, c with
        | [], _ => rfl
        | [_], _ => rfl
        | [_, _], c => exact absurd rfl c
        | _ :: _ :: _ :: _, _ => rfl
      rw [q]
      exact thaw1_pure rfl
    · have c : ds.length = 2 := by have c := c; simp at c; omega
      obtain ⟨a, e, rfl⟩ : ∃ a e, ds = [a, e] := by
        match ds, c with
        | [a, e], _ => exact ⟨a, e, rfl⟩
      refine FF.x_not ?_
      refine FF.x_call ?_
      refine FF.x_acons ?_
      refine FF.x_ix ?_
      refine FF.x_var (by rfl) ?_
      refine FF.x_const ?_
      refine FF.OkO.of rfl ?_
      refine FF.x_acons ?_
      refine FF.x_const ?_
      refine FF.x_acons ?_
      refine FF.x_bin ?_
      refine FF.x_const ?_
      refine FF.x_const ?_
      refine FF.OkO.of rfl ?_
      refine FF.x_anil ?_
      try dsimp only [List.set_cons_zero, List.set_cons_succ]
      refine (h159 a _ _ _ (vd _ (by simp))).mono ?_
      rintro _ rfl
      refine FF.OkO.of rfl ?_
      refine FF.OkO.of rfl ?_
      try dsimp only [List.set_cons_zero, List.set_cons_succ]
      rw [show ((10 : Int) ^ Int.toNat 30) = T30 from rfl]
      refine ⟨fun c => ?_, fun c => ?_⟩
      · have c : inW a 1 T30 = false := by simpa using c
        refine FF.x_cons ?_
        refine FF.x_ret ?_
        refine FF.x_const ?_
        refine FF.nxt_rt ?_
        try dsimp only [List.set_cons_zero, List.set_cons_succ]
        refine FF.nxt_rt ?_
        try dsimp only [List.set_cons_zero, List.set_cons_succ]
        refine FF.end_rt ?_
        try dsimp only [List.set_cons_zero, List.set_cons_succ]
        have q : kindW (.tup [a, e]) = false := by show (_ && _) = _; rw [c, Bool.false_and]
        rw [q]
        exact thaw1_pure rfl
      · have c : inW a 1 T30 = true := by simpa using c
        refine FF.x_nil ?_
        refine FF.nxt_nx ?_
        try dsimp only [List.set_cons_zero, List.set_cons_succ]
        refine FF.x_cons ?_
        refine FF.x_ret ?_
        refine FF.x_and ?_
        refine FF.x_call ?_
        refine FF.x_acons ?_
        refine FF.x_ix ?_
        refine FF.x_var (by rfl) ?_
        refine FF.x_const ?_
        refine FF.OkO.of rfl ?_
        refine FF.x_acons ?_
        refine FF.x_const ?_
        refine FF.x_acons ?_
        refine FF.x_const ?_
        refine FF.x_anil ?_
        try dsimp only [List.set_cons_zero, List.set_cons_succ]
        refine (h159 e _ _ _ (vd _ (by simp))).mono ?_
        rintro _ rfl
        have q : kindW (.tup [a, e]) = alW e := by show (_ && _) = _; rw [c, Bool.true_and]
        rw [q]
        refine ⟨_, rfl, fun c => ?_, fun c => ?_⟩
        · cases e with
          | int n =>
            refine FF.x_cmp ?_
            refine FF.x_ix ?_
            refine FF.x_var (by rfl) ?_
            refine FF.x_const ?_
            refine FF.OkO.of rfl ?_
            refine FF.x_tup ?_
            refine FF.x_acons ?_
            refine FF.x_const ?_
            refine FF.x_acons ?_
            refine FF.x_const ?_
            refine FF.x_acons ?_
            refine FF.x_const ?_
            refine FF.x_acons ?_
            refine FF.x_const ?_
            refine FF.x_acons ?_
            refine FF.x_const ?_
            refine FF.x_acons ?_
            refine FF.x_const ?_
            refine FF.x_acons ?_
            refine FF.x_const ?_
            refine FF.x_anil ?_
            refine FF.OkO.of rfl ?_
            refine FF.OkO.of rfl ?_
            refine FF.nxt_rt ?_
            try dsimp only [List.set_cons_zero, List.set_cons_succ]
            refine FF.end_rt ?_
            try dsimp only [List.set_cons_zero, List.set_cons_succ]
            show thaw1 0 [] (D.bl ((List.map D.int [1, 2, 4, 8, 16, 32, 64]).any fun d => eqFl d (D.int n))) = _
            rw [any_row]
            exact thaw1_pure rfl
          | _ => cases c
        · refine FF.nxt_rt ?_
          try dsimp only [List.set_cons_zero, List.set_cons_succ]
          refine FF.end_rt ?_
          try dsimp only [List.set_cons_zero, List.set_cons_succ]
          have q2 := al_in (v := e)
          rw [c, Bool.false_and] at q2
          rw [← q2, c]
          exact thaw1_pure rfl
  | ktp ns => exact absurd rfl (nk ns)
  | kpp _ => cases hv
  | scr _ => cases hv
  | ref _ => cases hv
  | exn _ _ => cases hv
  | opq _ =>
    refine FF.x_cons ?_
    refine FF.x_ite ?_
    refine FF.x_or ?_
    refine FF.x_not ?_
    refine FF.x_bi ?_
    refine FF.x_acons ?_
    refine FF.x_var (by rfl) ?_
    refine FF.x_anil ?_
    refine FF.OkO.of rfl ?_
    refine FF.OkO.of rfl ?_
    refine FF.OkO.of rfl ?_
    refine FF.Cd.tt ?_
    refine FF.OkO.of rfl ?_
    refine FF.Cd.tt ?_
    refine FF.x_cons ?_
    refine FF.x_ret ?_
    refine FF.x_const ?_
    refine FF.nxt_rt ?_
    try dsimp only [List.set_cons_zero, List.set_cons_succ]
    refine FF.nxt_rt ?_
    try dsimp only [List.set_cons_zero, List.set_cons_succ]
    refine FF.end_rt ?_
    try dsimp only [List.set_cons_zero, List.set_cons_succ]
    exact thaw1_pure rfl
  | _ =>
    refine FF.x_cons ?_
    refine FF.x_ite ?_
    refine FF.x_or ?_
    refine FF.x_not ?_
    refine FF.x_bi ?_
    refine FF.x_acons ?_
    refine FF.x_var (by rfl) ?_
    refine FF.x_anil ?_
    refine FF.OkO.of rfl ?_
    refine FF.OkO.of rfl ?_
    refine FF.OkO.of rfl ?_
    refine FF.Cd.tt ?_
    refine FF.OkO.of rfl ?_
    refine FF.Cd.tt ?_
    refine FF.x_cons ?_
    refine FF.x_ret ?_
    refine FF.x_const ?_
    refine FF.nxt_rt ?_
    try dsimp only [List.set_cons_zero, List.set_cons_succ]
    refine FF.nxt_rt ?_
    try dsimp only [List.set_cons_zero, List.set_cons_succ]
    refine FF.end_rt ?_
    try dsimp only [List.set_cons_zero, List.set_cons_succ]
    exact thaw1_pure rfl
theorem firstW_lt {g : D → Bool} {ds : List D} {z : Int} (e : firstW g ds = some z) : 0 ≤ z ∧ z < ds.length := by
  obtain ⟨p, hp, e⟩ := List.exists_of_findSome?_eq_some e
  split at e
  · cases e
  · cases e
    have := (List.getElem?_eq_some_iff.mp (mem_zipIdx_at hp)).1
    omega
def FaultOk (f : List D → Hq → R (D × Hq)) : Prop := ∀ (v : D) (h : Hq), vv v = true → noK v → (∀ ds, v = .tup ds → ∀ d ∈ ds, noK d) → Wp (f [v] h) fun p => p = (bookW v, h)
theorem fault_ok {φ : Fn} (h160 : LKindOk (φ 160)) : FaultOk (runDef φ d_q_law_fault) := by
  intro v h hv nk nd
  refine pure_def rfl rfl (by simp [D.pures, vv_pure hv]) (bookW_pure v) ?_
  cases v with
  | tup ds =>
    have vd := vvs_mem (show vvs ds = true from hv)
    have nd := nd ds rfl
    have T : Wp (exB φ (d_q_law_fault.body.drop 1) [some (.tup ds), none, none] []) fun f => Wp (endOf f) fun p => sizedW (.tup ds) 6 = true → thaw1 0 p.2 p.1 = some (bookW (.tup ds)) := by
      refine FF.x_cons ?_
      refine FF.x_for ?_
      refine FF.x_enum ?_
      refine FF.x_var (by rfl) ?_
      refine FF.OkO.of rfl ?_
      try dsimp only [List.set_cons_zero, List.set_cons_succ]
      unfold enumL
      refine wp_find (fun p : D × Nat => D.tup [.int (p.2 : Nat), p.1]) (fun p : D × Nat => if kindW p.1 = true then none else some (p.2 : Int)) (fun z => .tup [.str "kind", .int z]) (fun s => ∃ d1 d2 : Option D, s = [some (.tup ds), d1, d2]) (by rfl) ds.zipIdx _ ⟨_, _, rfl⟩ ?_ ?_ ?_
      · rintro p hp s ⟨d1, d2, rfl⟩
        have pm := List.mem_of_getElem? (mem_zipIdx_at hp)
        refine FF.x_stepL ?_
        refine FF.OkO.of rfl ?_
        refine FF.x_cons ?_
        refine FF.x_ite ?_
        refine FF.x_not ?_
        refine FF.x_call ?_
        refine FF.x_acons ?_
        refine FF.x_var (by rfl) ?_
        refine FF.x_anil ?_
        try dsimp only [List.set_cons_zero, List.set_cons_succ]
        refine (h160 p.1 _ (vd _ pm) (nd _ pm)).mono ?_
        rintro _ rfl
        refine FF.OkO.of rfl ?_
        refine FF.OkO.of rfl ?_
        try dsimp only [List.set_cons_zero, List.set_cons_succ]
        refine ⟨fun c => ?_, fun c => ?_⟩
        · have c : kindW p.1 = false := by simpa using c
          refine FF.x_cons ?_
          refine FF.x_ret ?_
          refine FF.x_tup ?_
          refine FF.x_acons ?_
          refine FF.x_const ?_
          refine FF.x_acons ?_
          refine FF.x_var (by rfl) ?_
          refine FF.x_anil ?_
          refine FF.OkO.of rfl ?_
          refine FF.nxt_rt ?_
          try dsimp only [List.set_cons_zero, List.set_cons_succ]
          refine FF.nxt_rt ?_
          try dsimp only [List.set_cons_zero, List.set_cons_succ]
          try dsimp only [List.set_cons_zero, List.set_cons_succ]
          exact .inl ⟨_, if_neg (by rw [c]; simp), rfl⟩
        · have c : kindW p.1 = true := by simpa using c
          refine FF.x_nil ?_
          refine FF.nxt_nx ?_
          try dsimp only [List.set_cons_zero, List.set_cons_succ]
          refine FF.x_nil ?_
          try dsimp only [List.set_cons_zero, List.set_cons_succ]
          exact .inr ⟨if_pos c, _, rfl, _, _, rfl⟩
      · intro z e
        refine FF.nxt_rt ?_
        try dsimp only [List.set_cons_zero, List.set_cons_succ]
        refine FF.end_rt ?_
        try dsimp only [List.set_cons_zero, List.set_cons_succ]
        intro c
        unfold bookW
        rw [if_pos c, show firstW kindW ((tupW (.tup ds)).getD []) = some z from e]
        exact thaw1_pure rfl
      · rintro e s ⟨d1, d2, rfl⟩
        refine FF.nxt_nx ?_
        try dsimp only [List.set_cons_zero, List.set_cons_succ]
        refine FF.x_cons ?_
        refine FF.x_ret ?_
        refine FF.x_const ?_
        refine FF.nxt_rt ?_
        try dsimp only [List.set_cons_zero, List.set_cons_succ]
        refine FF.end_rt ?_
        try dsimp only [List.set_cons_zero, List.set_cons_succ]
        intro c
        unfold bookW
        rw [if_pos c, show firstW kindW ((tupW (.tup ds)).getD []) = none from e]
        exact thaw1_pure rfl
    refine FF.x_cons ?_
    refine FF.x_ite ?_
    refine FF.x_or ?_
    refine FF.x_not ?_
    refine FF.x_bi ?_
    refine FF.x_acons ?_
    refine FF.x_var (by rfl) ?_
    refine FF.x_anil ?_
    refine FF.OkO.of rfl ?_
    refine FF.OkO.of rfl ?_
    refine FF.OkO.of rfl ?_
    refine FF.Cd.ff ?_
    refine FF.x_or ?_
    refine FF.x_cmp ?_
    refine FF.x_bi ?_
    refine FF.x_acons ?_
    refine FF.x_var (by rfl) ?_
    refine FF.x_anil ?_
    refine FF.OkO.of rfl ?_
    refine FF.x_const ?_
    refine FF.OkO.of rfl ?_
    refine FF.OkO.of rfl ?_
    try dsimp only [List.set_cons_zero, List.set_cons_succ]
    refine ⟨fun c => ?_, fun c => ?_⟩
    · have c0 := c
      have c : ¬ (1 : Int) ≤ ds.length := by have c := of_decide_eq_true c; omega
      rw [c0]
      refine FF.OkO.of rfl ?_
      refine FF.Cd.tt ?_
      refine FF.x_cons ?_
      refine FF.x_ret ?_
      refine FF.x_const ?_
      refine FF.nxt_rt ?_
      try dsimp only [List.set_cons_zero, List.set_cons_succ]
      refine FF.nxt_rt ?_
      try dsimp only [List.set_cons_zero, List.set_cons_succ]
      refine FF.end_rt ?_
      try dsimp only [List.set_cons_zero, List.set_cons_succ]
      have q : bookW (.tup ds) = .str "form" := by
        unfold bookW
        rw [if_neg]
        show ¬ (decide _ && decide _) = true
        rw [decide_eq_false c]; simp
      rw [q]
      exact thaw1_pure rfl
    · have c1 : (1 : Int) ≤ ds.length := by have c := of_decide_eq_false c; omega
      refine FF.x_cmp ?_
      refine FF.x_bi ?_
      refine FF.x_acons ?_
      refine FF.x_var (by rfl) ?_
      refine FF.x_anil ?_
      refine FF.OkO.of rfl ?_
      refine FF.x_const ?_
      refine FF.OkO.of rfl ?_
      refine FF.OkO.of rfl ?_
      try dsimp only [List.set_cons_zero, List.set_cons_succ]
      refine ⟨fun c => ?_, fun c => ?_⟩
      · have c2 : ¬ (ds.length : Int) ≤ 6 := by have c := of_decide_eq_true c; omega
        refine FF.x_cons ?_
        refine FF.x_ret ?_
        refine FF.x_const ?_
        refine FF.nxt_rt ?_
        try dsimp only [List.set_cons_zero, List.set_cons_succ]
        refine FF.nxt_rt ?_
        try dsimp only [List.set_cons_zero, List.set_cons_succ]
        refine FF.end_rt ?_
        try dsimp only [List.set_cons_zero, List.set_cons_succ]
        have q : bookW (.tup ds) = .str "form" := by
          unfold bookW
          rw [if_neg]
          show ¬ (decide _ && decide _) = true
          rw [decide_eq_false c2]; simp
        rw [q]
        exact thaw1_pure rfl
      · have c2 : (ds.length : Int) ≤ 6 := by have c := of_decide_eq_false c; omega
        have S : sizedW (.tup ds) 6 = true := by
          show (decide _ && decide _) = true
          rw [decide_eq_true c1, decide_eq_true c2]; rfl
        refine FF.x_nil ?_
        refine FF.Wp.mono (T) ?_
        intro f w
        exact w.mono fun p k => k S
  | ktp ns => exact absurd rfl (nk ns)
  | kpp _ => cases hv
  | scr _ => cases hv
  | ref _ => cases hv
  | exn _ _ => cases hv
  | opq _ =>
    refine FF.x_cons ?_
    refine FF.x_ite ?_
    refine FF.x_or ?_
    refine FF.x_not ?_
    refine FF.x_bi ?_
    refine FF.x_acons ?_
    refine FF.x_var (by rfl) ?_
    refine FF.x_anil ?_
    refine FF.OkO.of rfl ?_
    refine FF.OkO.of rfl ?_
    refine FF.OkO.of rfl ?_
    refine FF.Cd.tt ?_
    refine FF.OkO.of rfl ?_
    refine FF.Cd.tt ?_
    refine FF.x_cons ?_
    refine FF.x_ret ?_
    refine FF.x_const ?_
    refine FF.nxt_rt ?_
    try dsimp only [List.set_cons_zero, List.set_cons_succ]
    refine FF.nxt_rt ?_
    try dsimp only [List.set_cons_zero, List.set_cons_succ]
    refine FF.end_rt ?_
    try dsimp only [List.set_cons_zero, List.set_cons_succ]
    exact thaw1_pure rfl
  | _ =>
    refine FF.x_cons ?_
    refine FF.x_ite ?_
    refine FF.x_or ?_
    refine FF.x_not ?_
    refine FF.x_bi ?_
    refine FF.x_acons ?_
    refine FF.x_var (by rfl) ?_
    refine FF.x_anil ?_
    refine FF.OkO.of rfl ?_
    refine FF.OkO.of rfl ?_
    refine FF.OkO.of rfl ?_
    refine FF.Cd.tt ?_
    refine FF.OkO.of rfl ?_
    refine FF.Cd.tt ?_
    refine FF.x_cons ?_
    refine FF.x_ret ?_
    refine FF.x_const ?_
    refine FF.nxt_rt ?_
    try dsimp only [List.set_cons_zero, List.set_cons_succ]
    refine FF.nxt_rt ?_
    try dsimp only [List.set_cons_zero, List.set_cons_succ]
    refine FF.end_rt ?_
    try dsimp only [List.set_cons_zero, List.set_cons_succ]
    exact thaw1_pure rfl
theorem far_fn : ∃ F : Nat → Int, F 0 = 1 ∧ (∀ i < 7, mulOk (F i) (10 ^ 57) = true ∧ F i * 10 ^ 57 = F (i + 1)) ∧ -(10 ^ 450) < F 7 ∧ F 7 < 10 ^ 450 := by
  refine ⟨fun k => 10 ^ (57 * k), rfl, fun i h => ⟨?_, ?_⟩, by decide +kernel, by decide +kernel⟩
  · have k : i = 0 ∨ i = 1 ∨ i = 2 ∨ i = 3 ∨ i = 4 ∨ i = 5 ∨ i = 6 := by omega
    rcases k with rfl | rfl | rfl | rfl | rfl | rfl | rfl <;> decide +kernel
  · dsimp only
    rw [← Int.pow_add]
    congr 1
def FarOk (f : List D → Hq → R (D × Hq)) : Prop := ∃ z : Int, -(10 ^ 450) < z ∧ z < 10 ^ 450 ∧ ∀ h : Hq, Wp (f [] h) fun p => p = (.int z, h)
theorem far_ok {φ : Fn} : FarOk (runDef φ d_q_law_far) := by
  obtain ⟨farI, f0, fs, b0, b1⟩ := far_fn
  refine ⟨farI 7, b0, b1, fun h => ?_⟩
  refine pure_def rfl rfl rfl rfl ?_
  refine FF.x_cons ?_
  refine FF.x_set ?_
  refine FF.x_const ?_
  refine FF.OkO.of rfl ?_
  refine FF.nxt_nx ?_
  try dsimp only [List.set_cons_zero, List.set_cons_succ]
  refine FF.x_cons ?_
  refine FF.x_for ?_
  refine FF.x_range1 ?_
  refine FF.x_const ?_
  refine FF.o_rng1 (by decide) (by decide) ?_
  try dsimp only [List.set_cons_zero, List.set_cons_succ]
  refine wp_loopF (fun k s h => ∃ d1 : Option D, s = [some (.int (farI k)), d1] ∧ h = []) _ 0 _ _ ⟨none, ?_, rfl⟩ ?_ ?_
  · rw [f0]
    rfl
  · rintro i d s h e ⟨d1, rfl, rfl⟩
    obtain ⟨rfl, hi⟩ := rangeL_get e
    have i6 : i < 7 := by omega
    obtain ⟨m1, m2⟩ := fs i i6
    refine ⟨rfl, ?_⟩
    refine FF.x_stepL ?_
    refine FF.OkO.of rfl ?_
    refine FF.x_cons ?_
    refine FF.x_set ?_
    refine FF.x_bin ?_
    refine FF.x_var (by rfl) ?_
    refine FF.x_bin ?_
    refine FF.x_const ?_
    refine FF.x_const ?_
    refine FF.OkO.of rfl ?_
    try dsimp only [List.set_cons_zero, List.set_cons_succ]
    have e57 : (10 : Int) ^ Int.toNat 57 = 10 ^ 57 := rfl
    rw [e57]
    generalize (10 : Int) ^ 57 = B at m1 m2
    rw [Nat.zero_add]
    refine o_mul m1 ?_
    rw [m2]
    refine FF.OkO.of rfl ?_
    refine FF.nxt_nx ?_
    try dsimp only [List.set_cons_zero, List.set_cons_succ]
    refine FF.x_nil ?_
    try dsimp only [List.set_cons_zero, List.set_cons_succ]
    exact ⟨_, rfl, rfl⟩
  · rintro s h ⟨d1, rfl, rfl⟩
    refine ⟨rfl, ?_⟩
    refine FF.nxt_nx ?_
    try dsimp only [List.set_cons_zero, List.set_cons_succ]
    refine FF.x_cons ?_
    refine FF.x_ret ?_
    refine FF.x_var (by rfl) ?_
    refine FF.nxt_rt ?_
    try dsimp only [List.set_cons_zero, List.set_cons_succ]
    refine FF.end_rt ?_
    try dsimp only [List.set_cons_zero, List.set_cons_succ]
    exact thaw1_pure rfl
def OddIn (d : D) : Prop := VF 100 4 d ∧ noK d
theorem OddIn.pure {d : D} (h : OddIn d) : d.pure = true := h.1.pure
theorem odds_pure {L : List D} (h : ∀ d ∈ L, OddIn d) : D.pures L = true := vvs_pure (vvs_of fun d hd => (h d hd).1.vv)
theorem odd_tup {ds : List D} (h : ∀ d ∈ ds, VF 40 3 d) (l : ds.length ≤ 2) : OddIn (.tup ds) := ⟨(vf_tup h l).mono (by decide) (by decide), fun _ e => by cases e⟩
theorem vfi {i : Int} (h0 : -(10 ^ 450) < i) (h1 : i < 10 ^ 450) : VF 40 3 (.int i) := (vf_int h0 h1).mono (by decide) (by decide)
theorem t450 : (T30 * 2 : Int) < 10 ^ 450 := by decide +kernel
theorem vfs {i : Int} (h0 : -(T30 * 2) < i) (h1 : i < T30 * 2) : VF 40 3 (.int i) := by
  have := t450
  exact vfi (by omega) (by omega)
theorem all_app' {P : D → Prop} {a b : List D} (ha : ∀ d ∈ a, P d) (hb : ∀ d ∈ b, P d) : ∀ d ∈ a ++ b, P d := fun d hd => (List.mem_append.mp hd).elim (ha d) (hb d)
theorem odd_t0 {ds : List D} (h : ∀ d ∈ ds, VF 0 0 d) (l : ds.length ≤ 3) : OddIn (.tup ds) ∧ OddIn (.lst ds) := ⟨⟨(vf_tup h l).mono (by decide) (by decide), fun _ e => by cases e⟩, ⟨(vf_lst h l).mono (by decide) (by decide), fun _ e => by cases e⟩⟩
theorem odd_1 {d : D} {n k : Nat} (h : VF n k d) (h1 : n ≤ 100) (h2 : k ≤ 4) (h3 : noK d) : OddIn d := ⟨h.mono h1 h2, h3⟩
def OddKOk (f : List D → Hq → R (D × Hq)) : Prop := ∀ k : Int × Int, Kind k → Draws f [.ref 1, kindD k] OddIn
theorem oddk_ok {φ : Fn} (hp : PickOk (φ 3)) (h156 : FarOk (φ 156)) : OddKOk (runDef φ d_q_law_odd_kind) := by
  intro k hk
  obtain ⟨s, a⟩ := k
  have s0 := hk.s0
  have s1 := hk.s1
  have a0 := hk.a0
  have a1 := hk.a1
  dsimp only at s0 s1 a0 a1
  obtain ⟨far, F0, F1, h156⟩ := h156
  have F := And.intro F0 F1
  have Fs : VF 40 3 (.int s) := vfs (by omega) (by unfold T30 at *; omega)
  have t450 := t450
  have Fs0 : VF 0 0 (.int s) := vf_int (by unfold T30 at *; omega) (by unfold T30 at *; omega)
  have Fa0 : VF 0 0 (.int a) := vf_int (by unfold T30 at *; omega) (by unfold T30 at *; omega)
  have Fa : VF 40 3 (.int a) := vfs (by unfold T30; omega) (by unfold T30; omega)
  refine draws_trim rfl rfl fun r rest ok u => ?_
  refine FF.x_cons ?_
  refine FF.x_set ?_
  refine FF.x_tup ?_
  refine FF.x_acons ?_
  refine FF.x_var (by rfl) ?_
  refine FF.x_acons ?_
  refine FF.x_call ?_
  refine FF.x_anil ?_
  try dsimp only [List.set_cons_zero, List.set_cons_succ]
  refine (h156 _).mono ?_
  rintro _ rfl
  have Ff : VF 40 3 (.int far) := vfi F.1 F.2
  have Fn : VF 40 3 (.int (0 - far)) := vfi (by omega) (by omega)
  refine FF.x_anil ?_
  refine FF.OkO.of rfl ?_
  refine FF.OkO.of rfl ?_
  refine FF.nxt_nx ?_
  try dsimp only [List.set_cons_zero, List.set_cons_succ]
  refine FF.x_cons ?_
  refine FF.x_set ?_
  refine FF.x_lst ?_
  refine FF.x_acons ?_
  refine FF.x_tup ?_
  refine FF.x_acons ?_
  refine FF.x_var (by rfl) ?_
  refine FF.x_acons ?_
  refine FF.x_var (by rfl) ?_
  refine FF.x_anil ?_
  refine FF.OkO.of rfl ?_
  refine FF.x_acons ?_
  refine FF.x_tup ?_
  refine FF.x_acons ?_
  refine FF.x_bin ?_
  refine FF.x_const ?_
  refine FF.x_var (by rfl) ?_
  refine FF.OkO.of rfl ?_
  refine FF.x_acons ?_
  refine FF.x_var (by rfl) ?_
  refine FF.x_anil ?_
  refine FF.OkO.of rfl ?_
  refine FF.x_acons ?_
  refine FF.x_tup ?_
  refine FF.x_acons ?_
  refine FF.x_var (by rfl) ?_
  refine FF.x_acons ?_
  refine FF.x_var (by rfl) ?_
  refine FF.x_anil ?_
  refine FF.OkO.of rfl ?_
  refine FF.x_acons ?_
  refine FF.x_tup ?_
  refine FF.x_acons ?_
  refine FF.x_var (by rfl) ?_
  refine FF.x_acons ?_
  refine FF.x_bin ?_
  refine FF.x_const ?_
  refine FF.x_var (by rfl) ?_
  refine FF.OkO.of rfl ?_
  refine FF.x_anil ?_
  refine FF.OkO.of rfl ?_
  refine FF.x_anil ?_
  refine FF.OkO.of rfl ?_
  refine FF.OkO.of rfl ?_
  refine FF.nxt_nx ?_
  try dsimp only [List.set_cons_zero, List.set_cons_succ]
  refine FF.x_cons ?_
  refine FF.x_set ?_
  refine FF.x_lst ?_
  refine FF.x_acons ?_
  refine FF.x_const ?_
  refine FF.x_acons ?_
  refine FF.x_neg ?_
  refine FF.x_const ?_
  refine FF.OkO.of rfl ?_
  refine FF.x_acons ?_
  refine FF.x_bin ?_
  refine FF.x_const ?_
  refine FF.x_var (by rfl) ?_
  refine FF.OkO.of rfl ?_
  refine FF.x_acons ?_
  refine FF.x_bin ?_
  refine FF.x_bin ?_
  refine FF.x_const ?_
  refine FF.x_const ?_
  refine FF.OkO.of rfl ?_
  refine FF.x_const ?_
  refine FF.OkO.of rfl ?_
  refine FF.x_acons ?_
  refine FF.x_const ?_
  refine FF.x_acons ?_
  refine FF.x_bi ?_
  refine FF.x_acons ?_
  refine FF.x_var (by rfl) ?_
  refine FF.x_anil ?_
  try dsimp only [List.set_cons_zero, List.set_cons_succ]
  refine o_strI (by omega) s1 ?_
  have e30 : (10 : Int) ^ Int.toNat 30 = T30 := rfl
  have e60 : VF 40 3 (.int (10 ^ Int.toNat 60)) := ⟨by unfold D.GoodR; decide +kernel, by decide, by decide⟩
  refine FF.x_acons ?_
  refine FF.x_const ?_
  refine FF.x_acons ?_
  refine FF.x_tup ?_
  refine FF.x_acons ?_
  refine FF.x_var (by rfl) ?_
  refine FF.x_anil ?_
  refine FF.OkO.of rfl ?_
  refine FF.x_acons ?_
  refine FF.x_lst ?_
  refine FF.x_acons ?_
  refine FF.x_var (by rfl) ?_
  refine FF.x_anil ?_
  refine FF.OkO.of rfl ?_
  refine FF.x_acons ?_
  refine FF.x_bin ?_
  refine FF.x_const ?_
  refine FF.x_const ?_
  refine FF.OkO.of rfl ?_
  refine FF.x_acons ?_
  refine FF.x_const ?_
  refine FF.x_anil ?_
  refine FF.OkO.of rfl ?_
  refine FF.OkO.of rfl ?_
  refine FF.nxt_nx ?_
  try dsimp only [List.set_cons_zero, List.set_cons_succ]
  refine FF.x_cons ?_
  refine FF.x_set ?_
  refine FF.x_bin ?_
  refine FF.x_var (by rfl) ?_
  refine FF.x_comp ?_
  refine FF.x_iex ?_
  refine FF.x_var (by rfl) ?_
  refine FF.OkO.of rfl ?_
  try dsimp only [List.set_cons_zero, List.set_cons_succ]
  rw [e30]
  have Q : ∀ d ∈ [D.int 0, .int (-1), .int (0 - s), .int (T30 + 1), .bl true, .str (numS s), .non, .tup [.int s], .lst [.int s], .int (10 ^ Int.toNat 60), .dct []], VF 40 3 d := fun d hd => by
    simp only [List.mem_cons, List.not_mem_nil, or_false] at hd
    rcases hd with rfl | rfl | rfl | rfl | rfl | rfl | rfl | rfl | rfl | rfl | rfl
    · exact vfs (by decide) (by decide)
    · exact vfs (by decide) (by decide)
    · exact vfs (by omega) (by unfold T30; omega)
    · exact vfs (by decide) (by decide)
    · exact vf_bl.mono (by decide) (by decide)
    · exact (vf_num (by omega) s1).mono (by decide) (by decide)
    · exact vf_non.mono (by decide) (by decide)
    · exact (vf_tup (n := 0) (k := 0) (l := 1) (fun d hd => by rw [List.mem_singleton] at hd; subst hd; exact Fs0) (by simp)).mono (by decide) (by decide)
    · exact (vf_lst (n := 0) (k := 0) (l := 1) (fun d hd => by rw [List.mem_singleton] at hd; subst hd; exact Fs0) (by simp)).mono (by decide) (by decide)
    · exact e60
    · exact vf_dct0.mono (by decide) (by decide)
  have Ql : [D.int 0, .int (-1), .int (0 - s), .int (T30 + 1), .bl true, .str (numS s), .non, .tup [.int s], .lst [.int s], .int (10 ^ Int.toNat 60), .dct []].length = 11 := rfl
  generalize [D.int 0, .int (-1), .int (0 - s), .int (T30 + 1), .bl true, .str (numS s), .non, .tup [.int s], .lst [.int s], .int (10 ^ Int.toNat 60), .dct []] = W at Q Ql
  have L1 : ∀ d ∈ [D.tup [D.int far, D.int a], D.tup [D.int (0 - far), D.int a], D.tup [D.int s, D.int far], D.tup [D.int s, D.int (0 - far)]], OddIn d := fun d hd => by
    simp only [List.mem_cons, List.not_mem_nil, or_false] at hd
    rcases hd with rfl | rfl | rfl | rfl <;> refine odd_tup (fun d hd => ?_) (by simp) <;> simp only [List.mem_cons, List.not_mem_nil, or_false] at hd <;> rcases hd with rfl | rfl <;> assumption
  have L1l : [D.tup [D.int far, D.int a], D.tup [D.int (0 - far), D.int a], D.tup [D.int s, D.int far], D.tup [D.int s, D.int (0 - far)]].length ≤ 4 := by simp
  generalize [D.tup [D.int far, D.int a], D.tup [D.int (0 - far), D.int a], D.tup [D.int s, D.int far], D.tup [D.int s, D.int (0 - far)]] = A at L1 L1l
  refine wp_fmapV (fun own => some (.tup [own, .int a])) W rfl (by omega) (fun own hown => ?_) ?_
  · refine FF.x_stepC ?_
    refine FF.OkO.of rfl ?_
    refine FF.x_if0 ?_
    refine FF.Cd.tt ?_
    refine FF.x_tup ?_
    refine FF.x_acons ?_
    refine FF.x_var (by rfl) ?_
    refine FF.x_acons ?_
    refine FF.x_var (by rfl) ?_
    refine FF.x_anil ?_
    refine FF.OkO.of rfl ?_
    try dsimp only [List.set_cons_zero, List.set_cons_succ]
  have V2 : ∀ d ∈ W.filterMap (fun own => some (D.tup [own, .int a])), OddIn d := fun d hd => by
    obtain ⟨own, ho, e⟩ := List.mem_filterMap.mp hd
    cases e
    refine odd_tup (fun d hd => ?_) (by simp)
    simp only [List.mem_cons, List.not_mem_nil, or_false] at hd
    rcases hd with rfl | rfl
    · exact Q _ ho
    · exact Fa
  have V2l : (W.filterMap (fun own => some (D.tup [own, .int a]))).length ≤ 11 := Nat.le_trans (List.length_filterMap_le _ _) (by omega)
  generalize W.filterMap (fun own => some (D.tup [own, .int a])) = W2 at V2 V2l
  refine o_lst (by dsimp only; omega) ?_
  try dsimp only [List.set_cons_zero, List.set_cons_succ]
  refine o_addL (by omega) ?_
  have A2 := all_app' L1 V2
  have A2l : (A ++ W2).length ≤ 15 := by rw [List.length_append]; omega
  generalize A ++ W2 = A2' at A2 A2l
  refine FF.OkO.of rfl ?_
  refine FF.nxt_nx ?_
  try dsimp only [List.set_cons_zero, List.set_cons_succ]
  refine FF.x_cons ?_
  refine FF.x_set ?_
  refine FF.x_bin ?_
  refine FF.x_var (by rfl) ?_
  refine FF.x_comp ?_
  refine FF.x_iex ?_
  refine FF.x_tup ?_
  refine FF.x_acons ?_
  refine FF.x_const ?_
  refine FF.x_acons ?_
  refine FF.x_const ?_
  refine FF.x_acons ?_
  refine FF.x_const ?_
  refine FF.x_acons ?_
  refine FF.x_const ?_
  refine FF.x_acons ?_
  refine FF.x_const ?_
  refine FF.x_acons ?_
  refine FF.x_const ?_
  refine FF.x_acons ?_
  refine FF.x_bin ?_
  refine FF.x_const ?_
  refine FF.x_var (by rfl) ?_
  refine FF.OkO.of rfl ?_
  refine FF.x_acons ?_
  refine FF.x_const ?_
  refine FF.x_acons ?_
  refine FF.x_const ?_
  refine FF.x_acons ?_
  refine FF.x_bi ?_
  refine FF.x_acons ?_
  refine FF.x_var (by rfl) ?_
  refine FF.x_anil ?_
  try dsimp only [List.set_cons_zero, List.set_cons_succ]
  refine o_strI (by omega) (by unfold T30; omega) ?_
  refine FF.x_acons ?_
  refine FF.x_const ?_
  refine FF.x_acons ?_
  refine FF.x_lst ?_
  refine FF.x_acons ?_
  refine FF.x_var (by rfl) ?_
  refine FF.x_anil ?_
  refine FF.OkO.of rfl ?_
  refine FF.x_anil ?_
  refine FF.OkO.of rfl ?_
  refine FF.OkO.of rfl ?_
  try dsimp only [List.set_cons_zero, List.set_cons_succ]
  have B1 : ∀ d ∈ [D.int 0, .int 3, .int 5, .int 12, .int 63, .int 128, .int (0 - a), .bl true, .bl false, .str (numS a), .non, .lst [.int a]], VF 40 3 d := fun d hd => by
    simp only [List.mem_cons, List.not_mem_nil, or_false] at hd
    rcases hd with rfl | rfl | rfl | rfl | rfl | rfl | rfl | rfl | rfl | rfl | rfl | rfl
    · exact vfs (by decide) (by decide)
    · exact vfs (by decide) (by decide)
    · exact vfs (by decide) (by decide)
    · exact vfs (by decide) (by decide)
    · exact vfs (by decide) (by decide)
    · exact vfs (by decide) (by decide)
    · exact vfs (by unfold T30; omega) (by unfold T30; omega)
    · exact vf_bl.mono (by decide) (by decide)
    · exact vf_bl.mono (by decide) (by decide)
    · exact (vf_num (by omega) (by unfold T30; omega)).mono (by decide) (by decide)
    · exact vf_non.mono (by decide) (by decide)
    · exact (vf_lst (n := 0) (k := 0) (l := 1) (fun d hd => by rw [List.mem_singleton] at hd; subst hd; exact Fa0) (by simp)).mono (by decide) (by decide)
  have B1l : [D.int 0, .int 3, .int 5, .int 12, .int 63, .int 128, .int (0 - a), .bl true, .bl false, .str (numS a), .non, .lst [.int a]].length = 12 := rfl
  generalize [D.int 0, .int 3, .int 5, .int 12, .int 63, .int 128, .int (0 - a), .bl true, .bl false, .str (numS a), .non, .lst [.int a]] = B at B1 B1l
  refine wp_fmapV (fun own => some (.tup [.int s, own])) B rfl (by omega) (fun own hown => ?_) ?_
  · refine FF.x_stepC ?_
    refine FF.OkO.of rfl ?_
    refine FF.x_if0 ?_
    refine FF.Cd.tt ?_
    refine FF.x_tup ?_
    refine FF.x_acons ?_
    refine FF.x_var (by rfl) ?_
    refine FF.x_acons ?_
    refine FF.x_var (by rfl) ?_
    refine FF.x_anil ?_
    refine FF.OkO.of rfl ?_
    try dsimp only [List.set_cons_zero, List.set_cons_succ]
  have V3 : ∀ d ∈ B.filterMap (fun own => some (D.tup [.int s, own])), OddIn d := fun d hd => by
    obtain ⟨own, ho, e⟩ := List.mem_filterMap.mp hd
    cases e
    refine odd_tup (fun d hd => ?_) (by simp)
    simp only [List.mem_cons, List.not_mem_nil, or_false] at hd
    rcases hd with rfl | rfl
    · exact Fs
    · exact B1 _ ho
  have V3l : (B.filterMap (fun own => some (D.tup [.int s, own]))).length ≤ 12 := Nat.le_trans (List.length_filterMap_le _ _) (by omega)
  generalize B.filterMap (fun own => some (D.tup [.int s, own])) = B2 at V3 V3l
  refine o_lst (by dsimp only; omega) ?_
  try dsimp only [List.set_cons_zero, List.set_cons_succ]
  refine o_addL (by omega) ?_
  have A3 := all_app' A2 V3
  have A3l : (A2' ++ B2).length ≤ 27 := by rw [List.length_append]; omega
  generalize A2' ++ B2 = A3' at A3 A3l
  refine FF.OkO.of rfl ?_
  refine FF.nxt_nx ?_
  try dsimp only [List.set_cons_zero, List.set_cons_succ]
  refine FF.x_cons ?_
  refine FF.x_set ?_
  refine FF.x_bin ?_
  refine FF.x_var (by rfl) ?_
  refine FF.x_lst ?_
  refine FF.x_acons ?_
  refine FF.x_tup ?_
  refine FF.x_acons ?_
  refine FF.x_var (by rfl) ?_
  refine FF.x_anil ?_
  refine FF.OkO.of rfl ?_
  refine FF.x_acons ?_
  refine FF.x_tup ?_
  refine FF.x_acons ?_
  refine FF.x_var (by rfl) ?_
  refine FF.x_acons ?_
  refine FF.x_var (by rfl) ?_
  refine FF.x_acons ?_
  refine FF.x_const ?_
  refine FF.x_anil ?_
  refine FF.OkO.of rfl ?_
  refine FF.x_acons ?_
  refine FF.x_lst ?_
  refine FF.x_acons ?_
  refine FF.x_var (by rfl) ?_
  refine FF.x_acons ?_
  refine FF.x_var (by rfl) ?_
  refine FF.x_anil ?_
  refine FF.OkO.of rfl ?_
  refine FF.x_acons ?_
  refine FF.x_tup ?_
  refine FF.x_anil ?_
  refine FF.OkO.of rfl ?_
  refine FF.x_acons ?_
  refine FF.x_const ?_
  refine FF.x_acons ?_
  refine FF.x_var (by rfl) ?_
  refine FF.x_acons ?_
  refine FF.x_const ?_
  refine FF.x_acons ?_
  refine FF.x_bi ?_
  refine FF.x_acons ?_
  refine FF.x_var (by rfl) ?_
  refine FF.x_acons ?_
  refine FF.x_var (by rfl) ?_
  refine FF.x_anil ?_
  refine FF.OkO.of rfl ?_
  refine FF.x_acons ?_
  refine FF.x_var (by rfl) ?_
  refine FF.x_acons ?_
  refine FF.x_tup ?_
  refine FF.x_acons ?_
  refine FF.x_const ?_
  refine FF.x_acons ?_
  refine FF.x_const ?_
  refine FF.x_anil ?_
  refine FF.OkO.of rfl ?_
  refine FF.x_anil ?_
  refine FF.OkO.of rfl ?_
  try dsimp only [List.set_cons_zero, List.set_cons_succ]
  have one0 : VF 0 0 (.int 1) := vf_int (by decide) (by decide)
  have C1 : ∀ d ∈ [D.tup [D.int s], D.tup [D.int s, D.int a, D.int 1], D.lst [D.int s, D.int a], D.tup [], D.non, D.int s, D.str (Str.ofString "6/4"), D.dct [D.int s, D.int a], kindD (s, a), D.tup [D.int 1, D.int 64]], OddIn d := fun d hd => by
    simp only [List.mem_cons, List.not_mem_nil, or_false] at hd
    rcases hd with rfl | rfl | rfl | rfl | rfl | rfl | rfl | rfl | rfl | rfl
    · exact (odd_t0 (fun d hd => by simp only [List.mem_cons, List.not_mem_nil, or_false] at hd; subst hd; exact Fs0) (by simp)).1
    · exact (odd_t0 (fun d hd => by simp only [List.mem_cons, List.not_mem_nil, or_false] at hd; rcases hd with rfl | rfl | rfl <;> assumption) (by simp)).1
    · exact (odd_t0 (fun d hd => by simp only [List.mem_cons, List.not_mem_nil, or_false] at hd; rcases hd with rfl | rfl <;> assumption) (by simp)).2
    · exact (odd_t0 (fun d hd => by cases hd) (by simp)).1
    · exact odd_1 vf_non (by decide) (by decide) (fun _ e => by cases e)
    · exact odd_1 Fs0 (by decide) (by decide) (fun _ e => by cases e)
    · exact odd_1 (n := 3) (vf_str (fun c hc => of_decide_eq_true (List.all_eq_true.mp (by decide +kernel : ((Str.ofString "6/4").cps.toList.all fun c => decide (c < 1114112)) = true) c hc)) (by decide +kernel)) (by decide) (by decide) (fun _ e => by cases e)
    · exact odd_1 (vf_dct1 (by unfold T30 at *; omega) (by unfold T30 at *; omega) (by unfold T30 at *; omega) (by unfold T30 at *; omega)) (by decide) (by decide) (fun _ e => by cases e)
    · exact (odd_t0 (fun d hd => by simp only [List.mem_cons, List.not_mem_nil, or_false] at hd; rcases hd with rfl | rfl <;> assumption) (by simp)).1
    · exact (odd_t0 (fun d hd => by simp only [List.mem_cons, List.not_mem_nil, or_false] at hd; rcases hd with rfl | rfl <;> exact vf_int (by decide) (by decide)) (by simp)).1
  have C1l : [D.tup [D.int s], D.tup [D.int s, D.int a, D.int 1], D.lst [D.int s, D.int a], D.tup [], D.non, D.int s, D.str (Str.ofString "6/4"), D.dct [D.int s, D.int a], kindD (s, a), D.tup [D.int 1, D.int 64]].length = 10 := rfl
  generalize [D.tup [D.int s], D.tup [D.int s, D.int a, D.int 1], D.lst [D.int s, D.int a], D.tup [], D.non, D.int s, D.str (Str.ofString "6/4"), D.dct [D.int s, D.int a], kindD (s, a), D.tup [D.int 1, D.int 64]] = C at C1 C1l
  refine o_addL (by omega) ?_
  have A4 := all_app' A3 C1
  have A4l : (A3' ++ C).length ≤ 37 := by rw [List.length_append]; omega
  generalize A3' ++ C = A4' at A4 A4l
  refine FF.OkO.of rfl ?_
  refine FF.nxt_nx ?_
  try dsimp only [List.set_cons_zero, List.set_cons_succ]
  refine FF.x_cons ?_
  refine FF.x_ret ?_
  refine FF.x_call ?_
  refine FF.x_acons ?_
  refine FF.x_var (by rfl) ?_
  refine FF.x_acons ?_
  refine FF.x_bin ?_
  refine FF.x_var (by rfl) ?_
  refine FF.x_lst ?_
  refine FF.x_acons ?_
  refine FF.x_tup ?_
  refine FF.x_acons ?_
  refine FF.x_var (by rfl) ?_
  refine FF.x_acons ?_
  refine FF.x_bin ?_
  refine FF.x_const ?_
  refine FF.x_bin ?_
  refine FF.x_const ?_
  refine FF.x_const ?_
  refine FF.OkO.of rfl ?_
  refine FF.OkO.of rfl ?_
  refine FF.x_anil ?_
  refine FF.OkO.of rfl ?_
  refine FF.x_anil ?_
  refine FF.OkO.of rfl ?_
  try dsimp only [List.set_cons_zero, List.set_cons_succ]
  rw [e30]
  have D1 : ∀ d ∈ [D.tup [D.int s, D.int (2 * T30)]], OddIn d := fun d hd => by
    rw [List.mem_singleton] at hd
    subst hd
    exact (odd_t0 (fun d hd => by
      simp only [List.mem_cons, List.not_mem_nil, or_false] at hd
      rcases hd with rfl | rfl
      · exact Fs0
      · exact vf_int (by unfold T30 at *; omega) (by unfold T30 at *; omega)) (by simp)).1
  refine o_addL (by simp only [List.length_cons, List.length_nil]; omega) ?_
  have A5 := all_app' A4 D1
  have A5l : (A4' ++ [D.tup [D.int s, D.int (2 * T30)]]).length ≤ 38 := by rw [List.length_append]; simp only [List.length_cons, List.length_nil]; omega
  have A5n : A4' ++ [D.tup [D.int s, D.int (2 * T30)]] ≠ [] := by simp
  generalize A4' ++ [D.tup [D.int s, D.int (2 * T30)]] = A5' at A5 A5l A5n
  refine FF.x_anil ?_
  try dsimp only [List.set_cons_zero, List.set_cons_succ]
  refine (hp A5' A5n (by omega) (odds_pure A5) r rest ok u).mono ?_
  rintro ⟨x, h'⟩ ⟨r', e, ok', hx⟩
  dsimp only at e hx
  subst e
  refine FF.nxt_rt ?_
  try dsimp only [List.set_cons_zero, List.set_cons_succ]
  refine FF.end_rt ?_
  try dsimp only [List.set_cons_zero, List.set_cons_succ]
  exact fin ok' (A5 x hx).pure (A5 x hx)
structure BV (x : D) : Prop where
  vf : VF 30000 30 x
  nk : noK x
  ni : ∀ ds, x = .tup ds → ∀ d ∈ ds, noK d
theorem BV.pure {d : D} (h : BV d) : d.pure = true := h.vf.pure
theorem bvs_pure {L : List D} (h : ∀ d ∈ L, BV d) : D.pures L = true := vvs_pure (vvs_of fun d hd => (h d hd).vf.vv)
theorem bv_tup {ds : List D} (h : ∀ d ∈ ds, VF 700 8 d ∧ noK d) (l : ds.length ≤ 42) : BV (.tup ds) := ⟨(vf_tup (fun d hd => (h d hd).1) l).mono (by decide) (by decide), (fun _ e => by cases e), fun _ e => by cases e; exact fun d hd => (h d hd).2⟩
theorem bv_lst {ds : List D} (h : ∀ d ∈ ds, VF 700 8 d ∧ noK d) (l : ds.length ≤ 42) : BV (.lst ds) := ⟨(vf_lst (fun d hd => (h d hd).1) l).mono (by decide) (by decide), (fun _ e => by cases e), fun _ e => by cases e⟩
theorem bv_1 {d : D} {n k : Nat} (h : VF n k d) (h1 : n ≤ 30000) (h2 : k ≤ 30) (h3 : noK d) (h4 : ∀ ds, d ≠ .tup ds) : BV d := ⟨h.mono h1 h2, h3, fun _ e => absurd e (h4 _)⟩
theorem kind_vf {k : Int × Int} (hk : Kind k) : VF 700 8 (kindD k) ∧ noK (kindD k) := by
  have := t450
  have h1 := hk.s0; have h2 := hk.s1; have h3 := hk.a0; have h4 := hk.a1
  refine ⟨(vf_tup (n := 0) (k := 0) (l := 2) (fun d hd => ?_) (by simp)).mono (by decide) (by decide), fun _ e => by cases e⟩
  simp only [List.mem_cons, List.not_mem_nil, or_false] at hd
  rcases hd with rfl | rfl
  · exact vf_int (by unfold T30 at *; omega) (by unfold T30 at *; omega)
  · exact vf_int (by unfold T30 at *; omega) (by unfold T30 at *; omega)
theorem kinds_vf {b : List (Int × Int)} (hk : ∀ k ∈ b, Kind k) : ∀ d ∈ b.map kindD, VF 700 8 d ∧ noK d := fun d hd => by
  obtain ⟨k, h, rfl⟩ := List.mem_map.mp hd
  exact kind_vf (hk k h)
theorem kind_vf2 {k : Int × Int} (hk : Kind k) : VF 2 1 (kindD k) := by
  have := t450
  have h1 := hk.s0; have h2 := hk.s1; have h3 := hk.a0; have h4 := hk.a1
  refine (vf_tup (n := 0) (k := 0) (l := 2) (fun d hd => ?_) (by simp)).mono (by decide) (by decide)
  simp only [List.mem_cons, List.not_mem_nil, or_false] at hd
  rcases hd with rfl | rfl
  · exact vf_int (by unfold T30 at *; omega) (by unfold T30 at *; omega)
  · exact vf_int (by unfold T30 at *; omega) (by unfold T30 at *; omega)
def SpoiltOk (f : List D → Hq → R (D × Hq)) : Prop := ∀ b : List (Int × Int), 0 < b.length → b.length ≤ 6 → (∀ k ∈ b, Kind k) → Draws f [.ref 1, bookD b] BV
theorem spoilt_ok {φ : Fn} (hd : DrawOk (φ 2)) (hp : PickOk (φ 3)) (h157 : OddKOk (φ 157)) : SpoiltOk (runDef φ d_q_law_spoilt) := by
  intro b b0 b6 hk
  have K := kinds_vf hk
  refine draws_trim rfl rfl fun r rest ok u => ?_
  refine FF.x_cons ?_
  refine FF.x_set ?_
  refine FF.x_tup ?_
  refine FF.x_acons ?_
  refine FF.x_call ?_
  refine FF.x_acons ?_
  refine FF.x_var (by rfl) ?_
  refine FF.x_acons ?_
  refine FF.x_const ?_
  refine FF.x_anil ?_
  try dsimp only [List.set_cons_zero, List.set_cons_succ]
  refine (draw_int hd (many := 7) (by decide) (by decide +kernel) _ _ ok u).mono ?_
  rintro ⟨_, _⟩ ⟨_, ee, ok, l, ee2, l0, l1⟩
  dsimp only at ee ee2
  subst ee; subst ee2
  refine FF.x_acons ?_
  refine FF.x_call ?_
  refine FF.x_acons ?_
  refine FF.x_var (by rfl) ?_
  refine FF.x_acons ?_
  refine FF.x_bi ?_
  refine FF.x_acons ?_
  refine FF.x_var (by rfl) ?_
  refine FF.x_anil ?_
  refine FF.OkO.of rfl ?_
  refine FF.x_anil ?_
  try dsimp only [List.set_cons_zero, List.set_cons_succ]
  rw [List.length_map]
  refine (draw_int hd (many := (b.length : Int)) (by omega) (log_small b0 (by omega)) _ _ ok u).mono ?_
  rintro ⟨_, _⟩ ⟨r2, e1, ok, z, e2, z0, z1⟩
  dsimp only at e1 e2
  subst e1; subst e2
  refine FF.x_anil ?_
  refine FF.OkO.of rfl ?_
  refine FF.OkO.of rfl ?_
  refine FF.nxt_nx ?_
  try dsimp only [List.set_cons_zero, List.set_cons_succ]
  refine FF.x_cons ?_
  refine FF.x_ite ?_
  refine FF.x_cmp ?_
  refine FF.x_var (by rfl) ?_
  refine FF.x_const ?_
  refine FF.OkO.of rfl ?_
  refine FF.OkO.of rfl ?_
  try dsimp only [List.set_cons_zero, List.set_cons_succ]
  refine ⟨fun c => ?_, fun c => ?_⟩
  · refine FF.x_cons ?_
    refine FF.x_set ?_
    refine FF.x_lst ?_
    refine FF.x_acons ?_
    refine FF.x_bi ?_
    refine FF.x_acons ?_
    refine FF.x_var (by rfl) ?_
    refine FF.x_anil ?_
    try dsimp only [List.set_cons_zero, List.set_cons_succ]
    refine o_listP (x := bookD b) (ds := b.map kindD) rfl (by rw [List.length_map]; omega) ?_
    unfold bookD
    refine FF.x_acons ?_
    refine FF.x_tup ?_
    refine FF.x_anil ?_
    refine FF.OkO.of rfl ?_
    refine FF.x_acons ?_
    refine FF.x_const ?_
    refine FF.x_acons ?_
    refine FF.x_bin ?_
    refine FF.x_var (by rfl) ?_
    refine FF.x_const ?_
    try dsimp only [List.set_cons_zero, List.set_cons_succ]
    refine o_mulT (by intro e; rw [List.map_eq_nil_iff] at e; rw [e] at b0; simp at b0) (by decide) (by decide) (by rw [List.length_map]; omega) ?_
    refine FF.x_acons ?_
    refine FF.x_tup ?_
    refine FF.x_acons ?_
    refine FF.x_var (by rfl) ?_
    refine FF.x_anil ?_
    refine FF.OkO.of rfl ?_
    refine FF.x_acons ?_
    refine FF.x_ix ?_
    refine FF.x_var (by rfl) ?_
    refine FF.x_const ?_
    try dsimp only [List.set_cons_zero, List.set_cons_succ]
    obtain ⟨k0, bs, eb⟩ : ∃ k0 bs, b.map kindD = kindD k0 :: bs ∧ Kind k0 := by
      match b, b0 with
      | k :: bs, _ => exact ⟨k, bs.map kindD, rfl, hk k List.mem_cons_self⟩
    obtain ⟨eb, hk0⟩ := eb
    have bl : (b.map kindD).length ≤ 6 := by rw [List.length_map]; exact b6
    have cz : cut (b.map kindD) none (some 1) = [kindD k0] := by
      rw [eb]
      unfold cut
      simp [HT.sIx]
    refine o_ixT (d := kindD k0) (by rw [eb]; unfold at?; exact atI_nat (j := 0) rfl) ?_
    refine FF.x_acons ?_
    refine FF.x_const ?_
    refine FF.x_acons ?_
    refine FF.x_const ?_
    refine FF.x_acons ?_
    refine FF.x_const ?_
    refine FF.x_acons ?_
    refine FF.x_const ?_
    refine FF.x_acons ?_
    refine FF.x_bin ?_
    refine FF.x_var (by rfl) ?_
    refine FF.x_bin ?_
    refine FF.x_slice ?_
    refine FF.x_var (by rfl) ?_
    refine FF.x_no ?_
    refine FF.x_yes ?_
    refine FF.x_const ?_
    try dsimp only [List.set_cons_zero, List.set_cons_succ]
    refine ⟨_, rfl, ?_⟩
    refine FF.OkO.of rfl ?_
    refine FF.x_const ?_
    try dsimp only [List.set_cons_zero, List.set_cons_succ]
    rw [cz]
    refine o_mulT (by simp) (by decide) (by decide) (by simp) ?_
    try dsimp only [List.set_cons_zero, List.set_cons_succ]
    have K2 : ∀ d ∈ b.map kindD, VF 2 1 d := fun d hd => by
      obtain ⟨k, h, rfl⟩ := List.mem_map.mp hd
      exact kind_vf2 (hk k h)
    generalize b.map kindD = ks at K bl eb K2
    refine o_addTT (by simp; omega) ?_
    refine FF.x_anil ?_
    refine FF.OkO.of rfl ?_
    refine FF.OkO.of rfl ?_
    refine FF.nxt_nx ?_
    try dsimp only [List.set_cons_zero, List.set_cons_succ]
    refine FF.x_cons ?_
    refine FF.x_ret ?_
    refine FF.x_call ?_
    refine FF.x_acons ?_
    refine FF.x_var (by rfl) ?_
    refine FF.x_acons ?_
    refine FF.x_var (by rfl) ?_
    refine FF.x_anil ?_
    try dsimp only [List.set_cons_zero, List.set_cons_succ]
    have KB : VF 700 8 (.tup ks) := (vf_tup (n := 2) (k := 1) (l := 6) K2 bl).mono (by decide) (by decide)
    have V : ∀ d ∈ [D.lst ks, D.tup [], D.non, D.tup (List.replicate (Int.toNat 7) ks).flatten, D.tup [D.tup ks], kindD k0, D.str (Str.ofString "6/4 3/2"), D.dct [], D.int 7, D.bl true, D.tup (ks ++ (List.replicate (Int.toNat 6) [kindD k0]).flatten)], BV d := fun d hd => by
      simp only [List.mem_cons, List.not_mem_nil, or_false] at hd
      rcases hd with rfl | rfl | rfl | rfl | rfl | rfl | rfl | rfl | rfl | rfl | rfl
      · exact bv_lst K (by omega)
      · exact bv_tup (fun d hd => by cases hd) (by simp)
      · exact bv_1 vf_non (by decide) (by decide) (fun _ e => by cases e) (fun _ e => by cases e)
      · refine bv_tup (fun d hd => ?_) ?_
        · obtain ⟨l, hl, hd⟩ := List.mem_flatten.mp hd
          rw [List.eq_of_mem_replicate hl] at hd
          exact K d hd
        · rw [List.length_flatten, List.map_replicate, List.sum_replicate_nat]
          show 7 * _ ≤ 42
          omega
      · refine bv_tup (fun d hd => ?_) (by simp)
        rw [List.mem_singleton] at hd
        subst hd
        exact ⟨KB, fun _ e => by cases e⟩
      · exact bv_tup (ds := [.int k0.1, .int k0.2]) (fun d hd => by
          have h1 := hk0.s0; have h2 := hk0.s1; have h3 := hk0.a0; have h4 := hk0.a1
          simp only [List.mem_cons, List.not_mem_nil, or_false] at hd
          rcases hd with rfl | rfl
          · exact ⟨(vfs (by unfold T30 at *; omega) (by unfold T30 at *; omega)).mono (by decide) (by decide), fun _ e => by cases e⟩
          · exact ⟨(vfs (by unfold T30 at *; omega) (by unfold T30 at *; omega)).mono (by decide) (by decide), fun _ e => by cases e⟩) (by simp)
      · exact bv_1 (n := 10) (vf_str (fun c hc => of_decide_eq_true (List.all_eq_true.mp (by decide +kernel : ((Str.ofString "6/4 3/2").cps.toList.all fun c => decide (c < 1114112)) = true) c hc)) (by decide +kernel)) (by decide) (by decide) (fun _ e => by cases e) (fun _ e => by cases e)
      · exact bv_1 vf_dct0 (by decide) (by decide) (fun _ e => by cases e) (fun _ e => by cases e)
      · exact bv_1 (vf_int (by decide) (by decide)) (by decide) (by decide) (fun _ e => by cases e) (fun _ e => by cases e)
      · exact bv_1 vf_bl (by decide) (by decide) (fun _ e => by cases e) (fun _ e => by cases e)
      · refine bv_tup (fun d hd => ?_) ?_
        · rcases List.mem_append.mp hd with hd | hd
          · exact K d hd
          · obtain ⟨l, hl, hd⟩ := List.mem_flatten.mp hd
            rw [List.eq_of_mem_replicate hl, List.mem_singleton] at hd
            subst hd
            exact kind_vf hk0
        · rw [List.length_append, List.length_flatten, List.map_replicate, List.sum_replicate_nat]
          show _ + 6 * 1 ≤ 42
          omega
    have Vl : [D.lst ks, D.tup [], D.non, D.tup (List.replicate (Int.toNat 7) ks).flatten, D.tup [D.tup ks], kindD k0, D.str (Str.ofString "6/4 3/2"), D.dct [], D.int 7, D.bl true, D.tup (ks ++ (List.replicate (Int.toNat 6) [kindD k0]).flatten)].length = 11 := rfl
    have Vn : [D.lst ks, D.tup [], D.non, D.tup (List.replicate (Int.toNat 7) ks).flatten, D.tup [D.tup ks], kindD k0, D.str (Str.ofString "6/4 3/2"), D.dct [], D.int 7, D.bl true, D.tup (ks ++ (List.replicate (Int.toNat 6) [kindD k0]).flatten)] ≠ [] := by simp
    generalize [D.lst ks, D.tup [], D.non, D.tup (List.replicate (Int.toNat 7) ks).flatten, D.tup [D.tup ks], kindD k0, D.str (Str.ofString "6/4 3/2"), D.dct [], D.int 7, D.bl true, D.tup (ks ++ (List.replicate (Int.toNat 6) [kindD k0]).flatten)] = A at V Vl Vn
    refine (hp A Vn (by omega) (bvs_pure V) r2 rest ok u).mono ?_
    rintro ⟨x, h'⟩ ⟨r', e, ok', hx⟩
    dsimp only at e hx
    subst e
    refine FF.nxt_rt ?_
    try dsimp only [List.set_cons_zero, List.set_cons_succ]
    refine FF.nxt_rt ?_
    try dsimp only [List.set_cons_zero, List.set_cons_succ]
    refine FF.end_rt ?_
    try dsimp only [List.set_cons_zero, List.set_cons_succ]
    exact fin ok' (V x hx).pure (V x hx)
  · refine FF.x_nil ?_
    refine FF.nxt_nx ?_
    try dsimp only [List.set_cons_zero, List.set_cons_succ]
    refine FF.x_cons ?_
    refine FF.x_ite ?_
    refine FF.x_cmp ?_
    refine FF.x_var (by rfl) ?_
    refine FF.x_const ?_
    refine FF.OkO.of rfl ?_
    refine FF.OkO.of rfl ?_
    try dsimp only [List.set_cons_zero, List.set_cons_succ]
    unfold bookD
    refine ⟨fun c => ?_, fun c => ?_⟩
    · refine FF.x_cons ?_
      refine FF.x_ret ?_
      refine FF.x_bin ?_
      refine FF.x_slice ?_
      refine FF.x_var (by rfl) ?_
      refine FF.x_no ?_
      refine FF.x_yes ?_
      refine FF.x_var (by rfl) ?_
      try dsimp only [List.set_cons_zero, List.set_cons_succ]
      refine ⟨_, rfl, ?_⟩
      refine FF.OkO.of rfl ?_
      refine FF.x_slice ?_
      refine FF.x_var (by rfl) ?_
      refine FF.x_yes ?_
      refine FF.x_bin ?_
      refine FF.x_var (by rfl) ?_
      refine FF.x_const ?_
      refine FF.OkO.of rfl ?_
      try dsimp only [List.set_cons_zero, List.set_cons_succ]
      refine ⟨_, rfl, ?_⟩
      refine FF.x_no ?_
      refine FF.OkO.of rfl ?_
      try dsimp only [List.set_cons_zero, List.set_cons_succ]
      have l1 := cut_len (b.map kindD) none (some z)
      have l2 := cut_len (b.map kindD) (some (z + 1)) none
      rw [List.length_map] at l1 l2
      refine o_addTT (by omega) ?_
      refine FF.nxt_rt ?_
      try dsimp only [List.set_cons_zero, List.set_cons_succ]
      refine FF.nxt_rt ?_
      try dsimp only [List.set_cons_zero, List.set_cons_succ]
      refine FF.end_rt ?_
      try dsimp only [List.set_cons_zero, List.set_cons_succ]
      have B : BV (.tup (cut (b.map kindD) none (some z) ++ cut (b.map kindD) (some (z + 1)) none)) := bv_tup (fun d hd => (List.mem_append.mp hd).elim (fun h => K d (cut_sub h)) fun h => K d (cut_sub h)) (by rw [List.length_append]; omega)
      exact fin ok B.pure B
    · refine FF.x_nil ?_
      refine FF.nxt_nx ?_
      try dsimp only [List.set_cons_zero, List.set_cons_succ]
      refine FF.x_cons ?_
      refine FF.x_ret ?_
      refine FF.x_bin ?_
      refine FF.x_bin ?_
      refine FF.x_slice ?_
      refine FF.x_var (by rfl) ?_
      refine FF.x_no ?_
      refine FF.x_yes ?_
      refine FF.x_var (by rfl) ?_
      try dsimp only [List.set_cons_zero, List.set_cons_succ]
      refine ⟨_, rfl, ?_⟩
      refine FF.OkO.of rfl ?_
      refine FF.x_tup ?_
      refine FF.x_acons ?_
      refine FF.x_call ?_
      refine FF.x_acons ?_
      refine FF.x_var (by rfl) ?_
      refine FF.x_acons ?_
      refine FF.x_ix ?_
      refine FF.x_var (by rfl) ?_
      refine FF.x_var (by rfl) ?_
      try dsimp only [List.set_cons_zero, List.set_cons_succ]
      have z1' : z < ((b.map kindD).length : Int) := by rw [List.length_map]; exact z1
      have zn : z.toNat < b.length := by omega
      refine o_ixT (at_mod z0 z1') ?_
      rw [List.getElem_map]
      refine FF.x_anil ?_
      try dsimp only [List.set_cons_zero, List.set_cons_succ]
      refine (h157 _ (hk _ (List.getElem_mem zn)) _ _ ok u).mono ?_
      rintro ⟨x, h'⟩ ⟨r', e, ok', hx⟩
      dsimp only at e hx
      subst e
      refine FF.x_anil ?_
      refine FF.OkO.of rfl ?_
      try dsimp only [List.set_cons_zero, List.set_cons_succ]
      have l1 := cut_len (b.map kindD) none (some z)
      have l2 := cut_len (b.map kindD) (some (z + 1)) none
      rw [List.length_map] at l1 l2
      refine o_addTT (by simp only [List.length_cons, List.length_nil]; omega) ?_
      refine FF.x_slice ?_
      refine FF.x_var (by rfl) ?_
      refine FF.x_yes ?_
      refine FF.x_bin ?_
      refine FF.x_var (by rfl) ?_
      refine FF.x_const ?_
      refine FF.OkO.of rfl ?_
      try dsimp only [List.set_cons_zero, List.set_cons_succ]
      refine ⟨_, rfl, ?_⟩
      refine FF.x_no ?_
      refine FF.OkO.of rfl ?_
      try dsimp only [List.set_cons_zero, List.set_cons_succ]
      refine o_addTT (by rw [List.length_append]; simp only [List.length_cons, List.length_nil]; omega) ?_
      refine FF.nxt_rt ?_
      try dsimp only [List.set_cons_zero, List.set_cons_succ]
      refine FF.end_rt ?_
      try dsimp only [List.set_cons_zero, List.set_cons_succ]
      have B : BV (.tup (cut (b.map kindD) none (some z) ++ [x] ++ cut (b.map kindD) (some (z + 1)) none)) := bv_tup (fun d hd => by
        rcases List.mem_append.mp hd with h | h
        · rcases List.mem_append.mp h with h | h
          · exact K d (cut_sub h)
          · rw [List.mem_singleton] at h
            subst h
            exact ⟨hx.1.mono (by decide) (by decide), hx.2⟩
        · exact K d (cut_sub h)) (by rw [List.length_append, List.length_append]; simp only [List.length_cons, List.length_nil]; omega)
      exact fin ok' B.pure B
theorem bookW_good {v : D} (h : BV v) : (bookW v).Good 40 ∧ (bookW v).bulk ≤ 20 ∧ (bookW v).deepn ≤ 2 := by
  unfold bookW
  have gs : ∀ s : Str, (s.cps.toList.all fun c => decide (c < 16 ^ 8)) = true → (D.str s).Good 40 := fun s h => by
    unfold D.Good
    intro c hc
    exact of_decide_eq_true (List.all_eq_true.mp h c hc)
  split
  · rename_i c
    unfold tagW
    split
    · rename_i z e
      have := firstW_lt e
      have l6 : ((tupW v).getD []).length ≤ 6 := by
        unfold sizedW at c
        split at c
        · rename_i ds q
          rw [q]
          have := of_decide_eq_true (Bool.and_eq_true_iff.mp c).2
          show ds.length ≤ 6
          omega
        · cases c
      have n40 : (10 : Nat) ^ 40 = 10000000000000000000000000000000000000000 := by decide
      refine ⟨?_, by simp only [D.bulk, D.bulks]; decide +kernel, by simp only [D.deepn, D.deepns]; decide⟩
      rw [D.Good, D.Goods, D.Goods, D.Goods]
      refine ⟨gs _ (by decide +kernel), ?_, trivial⟩
      rw [D.Good, n40]
      omega
    · exact ⟨by unfold D.Good; trivial, by simp [D.bulk], by simp [D.deepn]⟩
  · exact ⟨gs _ (by decide +kernel), by simp only [D.bulk]; decide +kernel, by simp [D.deepn]⟩
theorem o_repW {v : D} (h0 : BV v) {h : Hq} {P : D × Hq → Prop} (p : P (.str (D.lst [bookW v, bookW v]).shown, h)) : OkO (biD .repr false [.lst [bookW v, bookW v]] h) P := by
  obtain ⟨g1, g2, g3⟩ := bookW_good h0
  refine o_repr (by simp only [D.Good, D.Goods, and_true]; exact ⟨g1, g1⟩) (by simp only [D.bulk, D.bulks]; omega) (by simp only [D.deepn, D.deepns]; omega) p
def ToldOk (f : List D → Hq → R (D × Hq)) : Prop := ∀ (v : D) (g : Bool) (h : Hq), BV v → Wp (f [v, .bl g] h) fun p => p = (.bl true, h)
theorem told_ok {φ : Fn} (h161 : FaultOk (φ 161)) (h89 : BookErrV (φ 89)) : ToldOk (runDef φ d_q_law_is_told) := by
  intro v g h hv
  have vv := hv.vf.vv
  refine pure_def rfl rfl (by simp [D.pures, hv.pure, D.pure]) rfl ?_
  refine FF.x_cons ?_
  refine FF.x_set ?_
  refine FF.x_tup ?_
  refine FF.x_acons ?_
  refine FF.x_bi ?_
  refine FF.x_acons ?_
  refine FF.x_var (by rfl) ?_
  refine FF.x_anil ?_
  try dsimp only [List.set_cons_zero, List.set_cons_succ]
  refine hv.vf.repr (by decide) (by decide) ?_
  refine FF.x_acons ?_
  refine FF.x_call ?_
  refine FF.x_acons ?_
  refine FF.x_var (by rfl) ?_
  refine FF.x_anil ?_
  try dsimp only [List.set_cons_zero, List.set_cons_succ]
  refine (h161 v _ vv hv.nk hv.ni).mono ?_
  rintro _ rfl
  cases g with
  | true =>
    refine FF.x_anil ?_
    refine FF.OkO.of rfl ?_
    refine FF.OkO.of rfl ?_
    refine FF.nxt_nx ?_
    try dsimp only [List.set_cons_zero, List.set_cons_succ]
    refine FF.x_cons ?_
    refine FF.x_set ?_
    refine FF.x_lst ?_
    refine FF.x_acons ?_
    refine FF.x_ife ?_
    refine FF.x_var (by rfl) ?_
    refine FF.OkO.of rfl ?_
    refine FF.Cd.tt ?_
    refine FF.x_callK ?_
    refine FF.x_acons ?_
    refine FF.x_var (by rfl) ?_
    refine FF.x_anil ?_
    try dsimp only [List.set_cons_zero, List.set_cons_succ]
    refine (h89 v _ vv hv.nk hv.ni).mono ?_
    rintro _ rfl
    refine FF.x_acons ?_
    refine FF.x_call ?_
    refine FF.x_acons ?_
    refine FF.x_var (by rfl) ?_
    refine FF.x_anil ?_
    try dsimp only [List.set_cons_zero, List.set_cons_succ]
    refine (h89 v _ vv hv.nk hv.ni).mono ?_
    rintro _ rfl
    refine FF.x_anil ?_
    refine FF.OkO.of rfl ?_
    refine FF.OkO.of rfl ?_
    refine FF.nxt_nx ?_
    try dsimp only [List.set_cons_zero, List.set_cons_succ]
    refine FF.x_cons ?_
    refine FF.x_ret ?_
    refine FF.x_and ?_
    refine FF.x_cmp ?_
    refine FF.x_bi ?_
    refine FF.x_acons ?_
    refine FF.x_var (by rfl) ?_
    refine FF.x_anil ?_
    try dsimp only [List.set_cons_zero, List.set_cons_succ]
    refine o_repW hv ?_
    refine FF.x_bi ?_
    refine FF.x_acons ?_
    refine FF.x_lst ?_
    refine FF.x_acons ?_
    refine FF.x_var (by rfl) ?_
    refine FF.x_acons ?_
    refine FF.x_var (by rfl) ?_
    refine FF.x_anil ?_
    refine FF.OkO.of rfl ?_
    refine FF.x_anil ?_
    try dsimp only [List.set_cons_zero, List.set_cons_succ]
    refine o_repW hv ?_
    refine FF.OkO.of rfl ?_
    refine FF.OkO.of rfl ?_
    try dsimp only [List.set_cons_zero, List.set_cons_succ]
    rw [beqS]
    refine FF.Cd.tt ?_
    refine FF.x_cmp ?_
    refine FF.x_bi ?_
    refine FF.x_acons ?_
    refine FF.x_var (by rfl) ?_
    refine FF.x_anil ?_
    try dsimp only [List.set_cons_zero, List.set_cons_succ]
    refine hv.vf.repr (by decide) (by decide) ?_
    refine FF.x_var (by rfl) ?_
    refine FF.OkO.of rfl ?_
    refine FF.nxt_rt ?_
    try dsimp only [List.set_cons_zero, List.set_cons_succ]
    refine FF.end_rt ?_
    try dsimp only [List.set_cons_zero, List.set_cons_succ]
    rw [beqS]
    exact thaw1_pure rfl
  | false =>
    refine FF.x_anil ?_
    refine FF.OkO.of rfl ?_
    refine FF.OkO.of rfl ?_
    refine FF.nxt_nx ?_
    try dsimp only [List.set_cons_zero, List.set_cons_succ]
    refine FF.x_cons ?_
    refine FF.x_set ?_
    refine FF.x_lst ?_
    refine FF.x_acons ?_
    refine FF.x_ife ?_
    refine FF.x_var (by rfl) ?_
    refine FF.OkO.of rfl ?_
    refine FF.Cd.ff ?_
    refine FF.x_call ?_
    refine FF.x_acons ?_
    refine FF.x_var (by rfl) ?_
    refine FF.x_anil ?_
    try dsimp only [List.set_cons_zero, List.set_cons_succ]
    refine (h89 v _ vv hv.nk hv.ni).mono ?_
    rintro _ rfl
    refine FF.x_acons ?_
    refine FF.x_call ?_
    refine FF.x_acons ?_
    refine FF.x_var (by rfl) ?_
    refine FF.x_anil ?_
    try dsimp only [List.set_cons_zero, List.set_cons_succ]
    refine (h89 v _ vv hv.nk hv.ni).mono ?_
    rintro _ rfl
    refine FF.x_anil ?_
    refine FF.OkO.of rfl ?_
    refine FF.OkO.of rfl ?_
    refine FF.nxt_nx ?_
    try dsimp only [List.set_cons_zero, List.set_cons_succ]
    refine FF.x_cons ?_
    refine FF.x_ret ?_
    refine FF.x_and ?_
    refine FF.x_cmp ?_
    refine FF.x_bi ?_
    refine FF.x_acons ?_
    refine FF.x_var (by rfl) ?_
    refine FF.x_anil ?_
    try dsimp only [List.set_cons_zero, List.set_cons_succ]
    refine o_repW hv ?_
    refine FF.x_bi ?_
    refine FF.x_acons ?_
    refine FF.x_lst ?_
    refine FF.x_acons ?_
    refine FF.x_var (by rfl) ?_
    refine FF.x_acons ?_
    refine FF.x_var (by rfl) ?_
    refine FF.x_anil ?_
    refine FF.OkO.of rfl ?_
    refine FF.x_anil ?_
    try dsimp only [List.set_cons_zero, List.set_cons_succ]
    refine o_repW hv ?_
    refine FF.OkO.of rfl ?_
    refine FF.OkO.of rfl ?_
    try dsimp only [List.set_cons_zero, List.set_cons_succ]
    rw [beqS]
    refine FF.Cd.tt ?_
    refine FF.x_cmp ?_
    refine FF.x_bi ?_
    refine FF.x_acons ?_
    refine FF.x_var (by rfl) ?_
    refine FF.x_anil ?_
    try dsimp only [List.set_cons_zero, List.set_cons_succ]
    refine hv.vf.repr (by decide) (by decide) ?_
    refine FF.x_var (by rfl) ?_
    refine FF.OkO.of rfl ?_
    refine FF.nxt_rt ?_
    try dsimp only [List.set_cons_zero, List.set_cons_succ]
    refine FF.end_rt ?_
    try dsimp only [List.set_cons_zero, List.set_cons_succ]
    rw [beqS]
    exact thaw1_pure rfl
theorem o_inLI {z : Int} {own : List Int} {h : Hq} {P : D × Hq → Prop} (p : P (.bl (decide (z ∈ own)), h)) : OkO (cmpop .In (.int z) (.lst (own.map .int)) h) P := by
  refine ⟨_, ?_, p⟩
  show ofO h ((inD h (.int z) (.lst (own.map .int))).map fun b => D.bl b) = _
  have e1 : (own.map D.int).all flatD = true := by
    rw [List.all_eq_true]
    intro x hx
    obtain ⟨y, _, rfl⟩ := List.mem_map.mp hx
    rfl
  unfold inD
  dsimp only [itemsOf]
  rw [e1, any_row]
  rfl
theorem o_reprAt {n : Nat} {ds : List D} {h : Hq} {P : D × Hq → Prop} (hn : h[n]? = some (.lst ds)) (g : (D.lst ds).Good 40) (hb : (D.lst ds).bulk ≤ 300000) (hd : (D.lst ds).deepn ≤ 64) (p : P (.str (D.lst ds).shown, h)) : OkO (biD .repr false [.ref n] h) P := by
  have gs : D.Goods 40 ds := by unfold D.Good at g; exact g
  have m1 : melt1 h (.ref n) = some (.lst ds) := by
    unfold melt1 meltN D.melts D.melt
    rw [hn]
    dsimp only
    unfold meltN
    rw [goods_melt (k := 40) ds gs]
    unfold D.melts
    rfl
  have m2 : melt1 h (.lst ds) = some (.lst ds) := by
    unfold melt1 meltN
    rw [goods_melt (k := 40) [.lst ds] (by unfold D.Goods; exact ⟨g, by unfold D.Goods; trivial⟩)]
  refine ⟨_, ?_, p⟩
  have := repr_good h g (by decide) (by decide) (by omega) hd (by decide)
  show reprD (.ref n) h = _
  rw [← this]
  unfold reprD pyOf
  rw [m1, m2]
def dueK (z : Int) : D := .tup [.str "kind", .int z]
def dueL : D := .lst [.str "form", dueK 1, dueK 0, dueK 0]
theorem opq_w {q : Nat} : bookW (.opq q) = .str "form" ∧ bookW (.tup [.tup [.int 1, .int 1], .opq q]) = dueK 1 ∧ bookW (.tup [.tup [.opq q, .int 1]]) = dueK 0 ∧ bookW (.tup [.tup [.int 6, .opq q]]) = dueK 0 := ⟨rfl, rfl, rfl, rfl⟩
theorem dues_good : (D.lst [dueL, dueL]).Good 40 ∧ (D.lst [dueL, dueL]).bulk ≤ 200 ∧ (D.lst [dueL, dueL]).deepn ≤ 6 := by
  have gs : ∀ s : Str, (s.cps.toList.all fun c => decide (c < 16 ^ 8)) = true → (D.str s).Good 40 := fun s h => by
    unfold D.Good
    intro c hc
    exact of_decide_eq_true (List.all_eq_true.mp h c hc)
  have gk : ∀ z : Int, 0 ≤ z → z < 2 → (dueK z).Good 40 := fun z h0 h1 => by
    have n40 : (10 : Nat) ^ 40 = 10000000000000000000000000000000000000000 := by decide
    unfold dueK
    rw [D.Good, D.Goods, D.Goods, D.Goods]
    refine ⟨gs _ (by decide +kernel), ?_, trivial⟩
    rw [D.Good, n40]
    omega
  have gl : dueL.Good 40 := by
    unfold dueL
    rw [D.Good, D.Goods, D.Goods, D.Goods, D.Goods, D.Goods]
    exact ⟨gs _ (by decide +kernel), gk _ (by decide) (by decide), gk _ (by decide) (by decide), gk _ (by decide) (by decide), trivial⟩
  refine ⟨by rw [D.Good, D.Goods, D.Goods, D.Goods]; exact ⟨gl, gl, trivial⟩, ?_, ?_⟩
  · decide +kernel
  · decide +kernel
theorem law_ok {φ : Fn} (hre : ReelOk (φ 1)) (hd : DrawOk (φ 2)) (hbk : ∀ many : Nat, many ≤ 1000 → Draws (φ 5) [.ref 1, .int many] (BookIn many)) (hmx : ∀ ns : List Int, ns.length ≤ 1000 → Draws (φ 18) [.ref 1, .lst (ns.map .int)] (ListPerm ns)) (h157 : OddKOk (φ 157)) (h158 : SpoiltOk (φ 158)) (h162 : ToldOk (φ 162)) (h89 : BookErrV (φ 89)) (h9001 : DeskOk (φ 9001)) {ns : List Int} (hl : ns.length ≤ 63) :
    Wp (runDef φ d_law [.scr ns] []) fun p => p = (.bl true, []) := by
  refine pure_def rfl rfl rfl rfl ?_
  refine FF.x_cons ?_
  refine FF.x_set ?_
  refine FF.x_call ?_
  refine FF.x_acons ?_
  refine FF.x_var (by rfl) ?_
  refine FF.x_anil ?_
  try dsimp only [List.set_cons_zero, List.set_cons_succ]
  refine (hre ns hl).mono ?_
  rintro ⟨_, _⟩ ⟨e1, r, e2, ok⟩
  dsimp only at e1 e2
  subst e1; subst e2
  refine FF.OkO.of rfl ?_
  refine FF.nxt_nx ?_
  try dsimp only [List.set_cons_zero, List.set_cons_succ]
  refine FF.x_cons ?_
  refine FF.x_for ?_
  refine FF.x_range1 ?_
  refine FF.x_const ?_
  refine FF.o_rng1 (by decide) (by decide) ?_
  try dsimp only [List.set_cons_zero, List.set_cons_succ]
  refine wp_loopF (fun k s h => ∃ (d2 d3 d4 d5 d6 d7 : Option D) (r : Reel) (own : Hq), s = [some (.scr ns), some (.ref 1), d2, d3, d4, d5, d6, d7, none, none, none, none, none, none, none] ∧ h = Reel.h r own ∧ r.Ok ∧ own.all (Ob.under (own.length + 2)) = true) _ 0 _ _ ⟨_, _, _, _, _, _, r, [], rfl, rfl, ok, rfl⟩ ?_ ?_
  · rintro i d s h e ⟨d2, d3, d4, d5, d6, d7, r, own, rfl, rfl, ok, u⟩
    obtain ⟨rfl, hi⟩ := rangeL_get e
    refine ⟨rfl, ?_⟩
    refine FF.x_stepL ?_
    refine FF.OkO.of rfl ?_
    refine FF.x_cons ?_
    refine FF.x_set ?_
    refine FF.x_call ?_
    refine FF.x_acons ?_
    refine FF.x_var (by rfl) ?_
    refine FF.x_acons ?_
    refine FF.x_bin ?_
    refine FF.x_const ?_
    refine FF.x_call ?_
    refine FF.x_acons ?_
    refine FF.x_var (by rfl) ?_
    refine FF.x_acons ?_
    refine FF.x_const ?_
    refine FF.x_anil ?_
    try dsimp only [List.set_cons_zero, List.set_cons_succ]
    refine (draw_int hd (many := 6) (by decide) (by decide +kernel) _ _ ok u).mono ?_
    rintro ⟨_, _⟩ ⟨_, ee, ok, z, ee2, z0, z1⟩
    dsimp only at ee ee2
    subst ee; subst ee2
    refine FF.OkO.of rfl ?_
    refine FF.x_anil ?_
    try dsimp only [List.set_cons_zero, List.set_cons_succ]
    rw [show (1 + z) = ((1 + z.toNat : Nat) : Int) by omega]
    refine (hbk _ (by omega) _ _ ok u).mono ?_
    rintro ⟨_, _⟩ ⟨r2, e1, ok, b, e2, hbl, hk⟩
    dsimp only at e1 e2
    subst e1; subst e2
    have hb6 : b.length ≤ 6 := by omega
    have hb0 : 0 < b.length := by omega
    have K := kinds_vf hk
    have B0 : BV (bookD b) := bv_tup K (by rw [List.length_map]; omega)
    refine FF.OkO.of rfl ?_
    refine FF.nxt_nx ?_
    try dsimp only [List.set_cons_zero, List.set_cons_succ]
    refine FF.x_cons ?_
    refine FF.x_set ?_
    refine FF.x_bin ?_
    refine FF.x_lst ?_
    refine FF.x_acons ?_
    refine FF.x_var (by rfl) ?_
    refine FF.x_anil ?_
    refine FF.OkO.of rfl ?_
    refine FF.x_comp ?_
    refine FF.x_range1 ?_
    refine FF.x_const ?_
    refine FF.o_rng1 (by decide) (by decide) ?_
    try dsimp only [List.set_cons_zero, List.set_cons_succ]
    refine wp_turns (fun k acc h => ∃ r : Reel, (∀ d ∈ acc, BV d) ∧ acc.length = k ∧ h = Reel.h r own ∧ r.Ok) _ 0 _ _ ⟨r2, (fun d hd => by cases hd), rfl, rfl, ok⟩ ?_ ?_
    · rintro j d acc h e ⟨r, ha, hc, rfl, ok⟩
      obtain ⟨rfl, hj⟩ := rangeL_get e
      refine ⟨rfl, by omega, ?_⟩
      refine FF.x_stepC ?_
      refine FF.OkO.of rfl ?_
      refine FF.x_if0 ?_
      refine FF.Cd.tt ?_
      refine FF.x_call ?_
      refine FF.x_acons ?_
      refine FF.x_var (by rfl) ?_
      refine FF.x_acons ?_
      refine FF.x_var (by rfl) ?_
      refine FF.x_anil ?_
      try dsimp only [List.set_cons_zero, List.set_cons_succ]
      refine (h158 b hb0 hb6 hk _ _ ok u).mono ?_
      rintro ⟨x, _⟩ ⟨r3, e1, ok, hx⟩
      dsimp only at e1 hx
      subst e1
      try dsimp only [List.set_cons_zero, List.set_cons_succ]
      refine ⟨r3, fun d hd => ?_, by rw [List.length_append, hc]; rfl, rfl, ok⟩
      rcases List.mem_append.mp hd with hd | hd
      · exact ha d hd
      · rw [List.mem_singleton] at hd; subst hd; exact hx
    rintro acc h ⟨r3, ha, hc, rfl, ok⟩
    rw [rangeL_len] at hc
    have hc5 : acc.length = 5 := hc
    refine ⟨rfl, ?_⟩
    try dsimp only [List.set_cons_zero, List.set_cons_succ]
    refine o_lst (by omega) ?_
    try dsimp only [List.set_cons_zero, List.set_cons_succ]
    have LB : ∀ d ∈ bookD b :: acc, BV d := fun d hd => by
      rcases List.mem_cons.mp hd with rfl | hd
      · exact B0
      · exact ha d hd
    have Ll : (bookD b :: acc).length = 6 := by rw [List.length_cons, hc5]
    refine ⟨_, show binop .Add true (.lst [bookD b]) (.lst acc) (r3.h own) = some (.ref (own.length + 2), Reel.h r3 (own ++ [.lst (bookD b :: acc)])) from ?_, ?_⟩
    · simp [binop, addD, lineOk, FF.lstOf, mkL, Reel.h]
      omega
    generalize bookD b :: acc = L at LB Ll
    have u2 := rest_app (ds := L) u (bvs_pure LB)
    have hk0 := hk
    refine FF.OkO.of rfl ?_
    refine FF.nxt_nx ?_
    try dsimp only [List.set_cons_zero, List.set_cons_succ]
    refine FF.x_cons ?_
    refine FF.x_set ?_
    refine FF.x_call ?_
    refine FF.x_acons ?_
    refine FF.x_var (by rfl) ?_
    refine FF.x_acons ?_
    refine FF.x_const ?_
    refine FF.x_anil ?_
    try dsimp only [List.set_cons_zero, List.set_cons_succ]
    refine (hbk 6 (by decide) _ _ ok u2).mono ?_
    rintro ⟨_, _⟩ ⟨r4, e1, ok, b2, e2, hbl2, hk2⟩
    dsimp only at e1 e2
    subst e1; subst e2
    refine FF.OkO.of rfl ?_
    refine FF.nxt_nx ?_
    try dsimp only [List.set_cons_zero, List.set_cons_succ]
    refine FF.x_cons ?_
    refine FF.x_set ?_
    refine FF.x_slice ?_
    refine FF.x_call ?_
    refine FF.x_acons ?_
    refine FF.x_var (by rfl) ?_
    refine FF.x_acons ?_
    refine FF.x_lrng ?_
    refine FF.x_range1 ?_
    refine FF.x_const ?_
    refine FF.o_rng1 (by decide) (by decide) ?_
    refine FF.OkO.of rfl ?_
    refine FF.x_anil ?_
    try dsimp only [List.set_cons_zero, List.set_cons_succ]
    refine (hmx [0, 1, 2, 3, 4, 5] (by decide) _ _ ok u2).mono ?_
    rintro ⟨_, _⟩ ⟨r5, e1, ok, ms, e2, hms⟩
    dsimp only at e1 e2
    subst e1; subst e2
    refine FF.x_no ?_
    refine FF.x_yes ?_
    refine FF.x_const ?_
    try dsimp only [List.set_cons_zero, List.set_cons_succ]
    refine ⟨_, rfl, ?_⟩
    refine FF.OkO.of rfl ?_
    refine FF.OkO.of rfl ?_
    refine FF.nxt_nx ?_
    try dsimp only [List.set_cons_zero, List.set_cons_succ]
    refine FF.x_cons ?_
    refine FF.x_expr ?_
    refine FF.x_me ?_
    refine FF.x_var (by rfl) ?_
    try dsimp only [List.set_cons_zero, List.set_cons_succ]
    rw [cut_map]
    try dsimp only [List.set_cons_zero, List.set_cons_succ]
    have K2 := kinds_vf hk2
    refine o_kindR rfl ?_
    refine FF.x_acons ?_
    refine FF.x_bi ?_
    refine FF.x_acons ?_
    refine FF.x_comp ?_
    refine FF.x_enum ?_
    refine FF.x_var (by rfl) ?_
    refine FF.OkO.of rfl ?_
    try dsimp only [List.set_cons_zero, List.set_cons_succ]
    rw [show enumL (b2.map kindD) = _ from enumL_map kindD b2]
    refine wp_turns (fun k acc h => ∃ r : Reel, (∀ d ∈ acc, VF 700 8 d ∧ noK d) ∧ acc.length = k ∧ h = Reel.h r (own ++ [.lst L]) ∧ r.Ok) _ 0 _ _ ⟨r5, (fun d hd => by cases hd), rfl, rfl, ok⟩ ?_ ?_
    · rintro j d acc h e ⟨r, ha, hc, rfl, ok⟩
      rw [List.getElem?_map] at e
      cases e1 : b2.zipIdx[j]? with
      | none => rw [e1] at e; cases e
      | some p =>
      rw [e1] at e; cases e
      have jl := (List.getElem?_eq_some_iff.mp e1).1
      rw [List.length_zipIdx] at jl
      have kp := hk2 _ (List.mem_of_getElem? (mem_zipIdx_at (List.mem_of_getElem? e1)))
      refine ⟨rfl, by omega, ?_⟩
      refine FF.x_stepC ?_
      refine FF.OkO.of rfl ?_
      refine FF.x_if0 ?_
      refine FF.Cd.tt ?_
      refine FF.x_ife ?_
      refine FF.x_cmp ?_
      refine FF.x_var (by rfl) ?_
      refine FF.x_var (by rfl) ?_
      try dsimp only [List.set_cons_zero, List.set_cons_succ]
      refine o_inLI ?_
      refine FF.OkO.of rfl ?_
      try dsimp only [List.set_cons_zero, List.set_cons_succ]
      have P1 : ∀ {r : Reel} {x : D}, r.Ok → (VF 700 8 x ∧ noK x) → ∃ r' : Reel, (∀ d ∈ acc ++ [x], VF 700 8 d ∧ noK d) ∧ (acc ++ [x]).length = 0 + j + 1 ∧ Reel.h r (own ++ [.lst L]) = Reel.h r' (own ++ [.lst L]) ∧ r'.Ok := fun {r x} ok hx => ⟨r, fun d hd => by
        rcases List.mem_append.mp hd with hd | hd
        · exact ha d hd
        · rw [List.mem_singleton] at hd; subst hd; exact hx, by rw [List.length_append, hc]; rfl, rfl, ok⟩
      refine ⟨fun c => ?_, fun c => ?_⟩
      · refine FF.x_call ?_
        refine FF.x_acons ?_
        refine FF.x_var (by rfl) ?_
        refine FF.x_acons ?_
        refine FF.x_var (by rfl) ?_
        refine FF.x_anil ?_
        try dsimp only [List.set_cons_zero, List.set_cons_succ]
        refine (h157 _ kp _ _ ok u2).mono ?_
        rintro ⟨x, _⟩ ⟨r7, e3, ok, hx⟩
        dsimp only at e3 hx
        subst e3
        exact P1 ok ⟨hx.1.mono (by decide) (by decide), hx.2⟩
      · refine FF.x_var (by rfl) ?_
        try dsimp only [List.set_cons_zero, List.set_cons_succ]
        exact P1 ok (kind_vf kp)
    rintro acc h ⟨r6, ha, hc, rfl, ok⟩
    refine ⟨rfl, ?_⟩
    rw [List.length_map, List.length_zipIdx, hbl2] at hc
    have hc6 : acc.length = 6 := hc
    try dsimp only [List.set_cons_zero, List.set_cons_succ]
    refine o_lst (by omega) ?_
    refine FF.x_anil ?_
    refine FF.OkO.of rfl ?_
    refine FF.x_anil ?_
    try dsimp only [List.set_cons_zero, List.set_cons_succ]
    refine o_appR (by omega) ?_
    have LB2 : ∀ d ∈ L ++ [D.tup acc], BV d := fun d hd => by
      rcases List.mem_append.mp hd with hd | hd
      · exact LB d hd
      · rw [List.mem_singleton] at hd; subst hd
        exact bv_tup ha (by omega)
    have u3 := rest_app (ds := L ++ [D.tup acc]) u (bvs_pure LB2)
    generalize L ++ [D.tup acc] = L2 at LB2 u3
    have at2 : (Reel.h r6 (own ++ [.lst L2]))[own.length + 2]? = some (.lst L2) := reel_at
    refine FF.nxt_nx ?_
    try dsimp only [List.set_cons_zero, List.set_cons_succ]
    refine FF.x_cons ?_
    refine FF.x_for ?_
    refine FF.x_iex ?_
    refine FF.x_var (by rfl) ?_
    try dsimp only [List.set_cons_zero, List.set_cons_succ]
    refine o_itR ?_
    refine wp_loopF (fun k s h => ∃ d7 : Option D, s = [some (.scr ns), some (.ref 1), some (.int (0 + (i : Int))), some (bookD b), some (.ref (own.length + 2)), some (bookD b2), some (.lst ((cut ms none (some 2)).map .int)), d7, none, none, none, none, none, none, none] ∧ h = Reel.h r6 (own ++ [.lst L2])) _ 0 _ _ ⟨_, rfl, rfl⟩ ?_ ?_
    · rintro j d s h e ⟨d7, rfl, rfl⟩
      refine ⟨stands_one at2, ?_⟩
      refine FF.x_stepL ?_
      refine FF.OkO.of rfl ?_
      refine FF.x_cons ?_
      refine FF.x_ite ?_
      refine FF.x_not ?_
      refine FF.x_call ?_
      refine FF.x_acons ?_
      refine FF.x_var (by rfl) ?_
      refine FF.x_acons ?_
      refine FF.x_cmp ?_
      refine FF.x_bin ?_
      refine FF.x_var (by rfl) ?_
      refine FF.x_const ?_
      refine FF.OkO.of rfl ?_
      refine FF.x_const ?_
      refine FF.OkO.of rfl ?_
      refine FF.x_anil ?_
      try dsimp only [List.set_cons_zero, List.set_cons_succ]
      refine (h162 d _ _ (LB2 d (List.mem_of_getElem? e))).mono ?_
      rintro _ rfl
      refine FF.OkO.of rfl ?_
      refine FF.OkO.of rfl ?_
      refine FF.Cd.ff ?_
      refine FF.x_nil ?_
      refine FF.nxt_nx ?_
      try dsimp only [List.set_cons_zero, List.set_cons_succ]
      refine FF.x_nil ?_
      try dsimp only [List.set_cons_zero, List.set_cons_succ]
      exact ⟨_, rfl, rfl⟩
    rintro s h ⟨d7, rfl, rfl⟩
    refine ⟨stands_one at2, ?_⟩
    refine FF.nxt_nx ?_
    try dsimp only [List.set_cons_zero, List.set_cons_succ]
    refine FF.x_nil ?_
    try dsimp only [List.set_cons_zero, List.set_cons_succ]
    exact ⟨_, _, _, _, _, _, r6, _, rfl, rfl, ok, u3⟩
  · rintro s h ⟨d2, d3, d4, d5, d6, d7, r, own, rfl, rfl, ok, u⟩
    refine ⟨rfl, ?_⟩
    refine FF.nxt_nx ?_
    try dsimp only [List.set_cons_zero, List.set_cons_succ]
    refine FF.x_cons ?_
    refine FF.x_set ?_
    refine FF.x_lst ?_
    refine FF.x_acons ?_
    refine FF.x_bin ?_
    refine FF.x_tup ?_
    refine FF.x_acons ?_
    refine FF.x_tup ?_
    refine FF.x_acons ?_
    refine FF.x_bin ?_
    refine FF.x_const ?_
    refine FF.x_const ?_
    refine FF.OkO.of rfl ?_
    refine FF.x_acons ?_
    refine FF.x_const ?_
    refine FF.x_anil ?_
    refine FF.OkO.of rfl ?_
    refine FF.x_anil ?_
    refine FF.OkO.of rfl ?_
    refine FF.x_const ?_
    refine FF.OkO.of rfl ?_
    refine FF.x_acons ?_
    refine FF.x_bin ?_
    refine FF.x_tup ?_
    refine FF.x_acons ?_
    refine FF.x_tup ?_
    refine FF.x_acons ?_
    refine FF.x_bin ?_
    refine FF.x_const ?_
    refine FF.x_const ?_
    refine FF.OkO.of rfl ?_
    refine FF.x_acons ?_
    refine FF.x_const ?_
    refine FF.x_anil ?_
    refine FF.OkO.of rfl ?_
    refine FF.x_anil ?_
    refine FF.OkO.of rfl ?_
    refine FF.x_const ?_
    refine FF.OkO.of rfl ?_
    refine FF.x_acons ?_
    refine FF.x_tup ?_
    refine FF.x_acons ?_
    refine FF.x_tup ?_
    refine FF.x_acons ?_
    refine FF.x_const ?_
    refine FF.x_acons ?_
    refine FF.x_const ?_
    refine FF.x_anil ?_
    refine FF.OkO.of rfl ?_
    refine FF.x_anil ?_
    refine FF.OkO.of rfl ?_
    refine FF.x_acons ?_
    refine FF.x_tup ?_
    refine FF.x_acons ?_
    refine FF.x_tup ?_
    refine FF.x_acons ?_
    refine FF.x_bin ?_
    refine FF.x_bin ?_
    refine FF.x_const ?_
    refine FF.x_const ?_
    refine FF.OkO.of rfl ?_
    refine FF.x_const ?_
    refine FF.OkO.of rfl ?_
    refine FF.x_acons ?_
    refine FF.x_const ?_
    refine FF.x_anil ?_
    refine FF.OkO.of rfl ?_
    refine FF.x_anil ?_
    refine FF.OkO.of rfl ?_
    refine FF.x_acons ?_
    refine FF.x_bin ?_
    refine FF.x_tup ?_
    refine FF.x_acons ?_
    refine FF.x_const ?_
    refine FF.x_anil ?_
    refine FF.OkO.of rfl ?_
    refine FF.x_bin ?_
    refine FF.x_tup ?_
    refine FF.x_acons ?_
    refine FF.x_tup ?_
    refine FF.x_acons ?_
    refine FF.x_const ?_
    refine FF.x_acons ?_
    refine FF.x_const ?_
    refine FF.x_anil ?_
    refine FF.OkO.of rfl ?_
    refine FF.x_anil ?_
    refine FF.OkO.of rfl ?_
    refine FF.x_const ?_
    refine FF.OkO.of rfl ?_
    refine FF.OkO.of rfl ?_
    refine FF.x_anil ?_
    refine FF.OkO.of rfl ?_
    refine FF.OkO.of rfl ?_
    refine FF.nxt_nx ?_
    try dsimp only [List.set_cons_zero, List.set_cons_succ]
    refine FF.x_cons ?_
    refine FF.x_ite ?_
    refine FF.x_cmp ?_
    refine FF.x_comp ?_
    refine FF.x_iex ?_
    refine FF.x_var (by rfl) ?_
    refine FF.OkO.of rfl ?_
    try dsimp only [List.set_cons_zero, List.set_cons_succ]
    have e30 : (10 : Int) ^ Int.toNat 30 = T30 := rfl
    rw [e30]
    have V : ∀ d ∈ [D.tup (List.replicate (Int.toNat 6) [D.tup [D.int T30, D.int 64]]).flatten, D.tup (List.replicate (Int.toNat 7) [D.tup [D.int T30, D.int 64]]).flatten, D.tup [D.tup [D.int 1, D.int 1]], D.tup [D.tup [D.int (T30 + 1), D.int 64]], D.tup ([D.non] ++ (List.replicate (Int.toNat 6) [D.tup [D.int 1, D.int 1]]).flatten)], BV d := fun d hd => by
      have T : ∀ {x y : Int}, -(T30 * 2) < x → x < T30 * 2 → -(T30 * 2) < y → y < T30 * 2 → VF 700 8 (.tup [.int x, .int y]) ∧ noK (.tup [.int x, .int y]) := fun h0 h1 h2 h3 => ⟨(vf_tup (n := 40) (k := 3) (l := 2) (fun d hd => by
        simp only [List.mem_cons, List.not_mem_nil, or_false] at hd
        rcases hd with rfl | rfl
        · exact vfs h0 h1
        · exact vfs h2 h3) (by simp)).mono (by decide) (by decide), fun _ e => by cases e⟩
      have R : ∀ {n : Nat} {x d : D}, d ∈ (List.replicate n [x]).flatten → d = x := fun h => by
        obtain ⟨l, hl, hd⟩ := List.mem_flatten.mp h
        rw [List.eq_of_mem_replicate hl, List.mem_singleton] at hd
        exact hd
      simp only [List.mem_cons, List.not_mem_nil, or_false] at hd
      rcases hd with rfl | rfl | rfl | rfl | rfl
      · exact bv_tup (fun d hd => by rw [R hd]; exact T (by decide) (by decide) (by decide) (by decide)) (by decide)
      · exact bv_tup (fun d hd => by rw [R hd]; exact T (by decide) (by decide) (by decide) (by decide)) (by decide)
      · exact bv_tup (fun d hd => by rw [List.mem_singleton.mp hd]; exact T (by decide) (by decide) (by decide) (by decide)) (by decide)
      · exact bv_tup (fun d hd => by rw [List.mem_singleton.mp hd]; exact T (by decide) (by decide) (by decide) (by decide)) (by decide)
      · refine bv_tup (fun d hd => ?_) (by decide)
        rcases List.mem_append.mp hd with hd | hd
        · rw [List.mem_singleton.mp hd]
          exact ⟨vf_non.mono (by decide) (by decide), fun _ e => by cases e⟩
        · rw [R hd]
          exact T (by decide) (by decide) (by decide) (by decide)
    generalize eW : [D.tup (List.replicate (Int.toNat 6) [D.tup [D.int T30, D.int 64]]).flatten, D.tup (List.replicate (Int.toNat 7) [D.tup [D.int T30, D.int 64]]).flatten, D.tup [D.tup [D.int 1, D.int 1]], D.tup [D.tup [D.int (T30 + 1), D.int 64]], D.tup ([D.non] ++ (List.replicate (Int.toNat 6) [D.tup [D.int 1, D.int 1]]).flatten)] = W at V
    have Wl : W.length = 5 := by rw [← eW]; rfl
    refine wp_fmapV (fun _ => none) W rfl (by omega) (fun v hv => ?_) ?_
    · refine FF.x_stepC ?_
      refine FF.OkO.of rfl ?_
      refine FF.x_if1 ?_
      refine FF.x_not ?_
      refine FF.x_call ?_
      refine FF.x_acons ?_
      refine FF.x_var (by rfl) ?_
      refine FF.x_acons ?_
      refine FF.x_const ?_
      refine FF.x_anil ?_
      try dsimp only [List.set_cons_zero, List.set_cons_succ]
      refine (h162 v false _ (V v hv)).mono ?_
      rintro _ rfl
      refine FF.OkO.of rfl ?_
      refine FF.OkO.of rfl ?_
      refine FF.Cd.ff ?_
      try dsimp only [List.set_cons_zero, List.set_cons_succ]
    have e0 : W.filterMap (fun _ => (none : Option D)) = [] := by
      rw [List.filterMap_eq_nil_iff]
      intros; rfl
    rw [e0]
    refine FF.OkO.of rfl ?_
    refine FF.x_lst ?_
    refine FF.x_anil ?_
    refine FF.OkO.of rfl ?_
    refine FF.OkO.of rfl ?_
    refine FF.OkO.of rfl ?_
    refine FF.Cd.ff ?_
    refine FF.x_nil ?_
    refine FF.nxt_nx ?_
    try dsimp only [List.set_cons_zero, List.set_cons_succ]
    refine FF.x_cons ?_
    refine FF.x_set ?_
    refine FF.x_lst ?_
    refine FF.x_acons ?_
    refine FF.x_bi ?_
    refine FF.x_anil ?_
    refine FF.OkO.of rfl ?_
    refine FF.x_acons ?_
    refine FF.x_call ?_
    refine FF.x_acons ?_
    refine FF.x_tup ?_
    refine FF.x_acons ?_
    refine FF.x_tup ?_
    refine FF.x_acons ?_
    refine FF.x_const ?_
    refine FF.x_acons ?_
    refine FF.x_const ?_
    refine FF.x_anil ?_
    refine FF.OkO.of rfl ?_
    refine FF.x_acons ?_
    refine FF.x_tup ?_
    refine FF.x_acons ?_
    refine FF.x_const ?_
    refine FF.x_acons ?_
    refine FF.x_const ?_
    refine FF.x_anil ?_
    refine FF.OkO.of rfl ?_
    refine FF.x_anil ?_
    refine FF.OkO.of rfl ?_
    refine FF.x_anil ?_
    try dsimp only [List.set_cons_zero, List.set_cons_succ]
    refine (h9001 [(4, 4), (1, 1)] _ (by decide) (by decide) (fun k hk => by
      simp only [List.mem_cons, List.not_mem_nil, or_false] at hk
      rcases hk with rfl | rfl <;> exact ⟨by decide, by decide, by decide, by decide, by decide⟩)).mono ?_
    rintro _ rfl
    refine FF.x_anil ?_
    refine FF.OkO.of rfl ?_
    refine FF.OkO.of rfl ?_
    refine FF.nxt_nx ?_
    try dsimp only [List.set_cons_zero, List.set_cons_succ]
    refine FF.x_cons ?_
    refine FF.x_set ?_
    refine FF.x_lst ?_
    refine FF.x_anil ?_
    refine FF.OkO.of rfl ?_
    refine FF.OkO.of rfl ?_
    refine FF.nxt_nx ?_
    try dsimp only [List.set_cons_zero, List.set_cons_succ]
    refine FF.x_cons ?_
    refine FF.x_for ?_
    refine FF.x_iex ?_
    refine FF.x_var (by rfl) ?_
    refine FF.OkO.of rfl ?_
    try dsimp only [List.set_cons_zero, List.set_cons_succ]
    rw [show (Reel.h r own).length = own.length + 2 by simp [Reel.h], show Reel.h r own ++ [Ob.lst []] = Reel.h r (own ++ [.lst []]) by simp [Reel.h]]
    refine wp_loopF (fun k s h => ∃ d11 : Option D, s = [some (.scr ns), some (.ref 1), d2, d3, d4, d5, d6, d7, some (.lst W), some (.lst [.opq 0, .opq 1]), some (.ref (own.length + 2)), d11, none, none, none] ∧ h = Reel.h r (own ++ [.lst (List.replicate k dueL)])) _ 0 _ _ ⟨_, rfl, rfl⟩ ?_ ?_
    · rintro j d s h e ⟨d11, rfl, rfl⟩
      obtain ⟨q, rfl⟩ : ∃ q, d = .opq q := by
        match j, e with
        | 0, e => cases e; exact ⟨_, rfl⟩
        | 1, e => cases e; exact ⟨_, rfl⟩
      have j2 := (List.getElem?_eq_some_iff.mp e).1
      have j2 : j < 2 := j2
      obtain ⟨w1, w2, w3, w4⟩ := opq_w (q := q)
      refine ⟨rfl, ?_⟩
      refine FF.x_stepL ?_
      refine FF.OkO.of rfl ?_
      refine FF.x_cons ?_
      refine FF.x_expr ?_
      refine FF.x_me ?_
      refine FF.x_var (by rfl) ?_
      try dsimp only [List.set_cons_zero, List.set_cons_succ]
      refine o_kindR rfl ?_
      refine FF.x_acons ?_
      refine FF.x_lst ?_
      refine FF.x_acons ?_
      refine FF.x_call ?_
      refine FF.x_acons ?_
      refine FF.x_var (by rfl) ?_
      refine FF.x_anil ?_
      try dsimp only [List.set_cons_zero, List.set_cons_succ]
      refine (h89 (.opq q) _ rfl (fun _ e => by cases e) (fun ds e => by cases e)).mono ?_
      rintro _ rfl
      refine FF.x_acons ?_
      refine FF.x_call ?_
      refine FF.x_acons ?_
      refine FF.x_tup ?_
      refine FF.x_acons ?_
      refine FF.x_tup ?_
      refine FF.x_acons ?_
      refine FF.x_const ?_
      refine FF.x_acons ?_
      refine FF.x_const ?_
      refine FF.x_anil ?_
      refine FF.OkO.of rfl ?_
      refine FF.x_acons ?_
      refine FF.x_var (by rfl) ?_
      refine FF.x_anil ?_
      refine FF.OkO.of rfl ?_
      refine FF.x_anil ?_
      try dsimp only [List.set_cons_zero, List.set_cons_succ]
      refine (h89 (.tup [.tup [.int 1, .int 1], .opq q]) _ rfl (fun _ e => by cases e) (fun ds e d hd ns e2 => by
        cases e; subst e2; simp at hd)).mono ?_
      rintro _ rfl
      refine FF.x_acons ?_
      refine FF.x_call ?_
      refine FF.x_acons ?_
      refine FF.x_tup ?_
      refine FF.x_acons ?_
      refine FF.x_tup ?_
      refine FF.x_acons ?_
      refine FF.x_var (by rfl) ?_
      refine FF.x_acons ?_
      refine FF.x_const ?_
      refine FF.x_anil ?_
      refine FF.OkO.of rfl ?_
      refine FF.x_anil ?_
      refine FF.OkO.of rfl ?_
      refine FF.x_anil ?_
      try dsimp only [List.set_cons_zero, List.set_cons_succ]
      refine (h89 (.tup [.tup [.opq q, .int 1]]) _ rfl (fun _ e => by cases e) (fun ds e d hd ns e2 => by
        cases e; subst e2; simp at hd)).mono ?_
      rintro _ rfl
      refine FF.x_acons ?_
      refine FF.x_call ?_
      refine FF.x_acons ?_
      refine FF.x_tup ?_
      refine FF.x_acons ?_
      refine FF.x_tup ?_
      refine FF.x_acons ?_
      refine FF.x_const ?_
      refine FF.x_acons ?_
      refine FF.x_var (by rfl) ?_
      refine FF.x_anil ?_
      refine FF.OkO.of rfl ?_
      refine FF.x_anil ?_
      refine FF.OkO.of rfl ?_
      refine FF.x_anil ?_
      try dsimp only [List.set_cons_zero, List.set_cons_succ]
      refine (h89 (.tup [.tup [.int 6, .opq q]]) _ rfl (fun _ e => by cases e) (fun ds e d hd ns e2 => by
        cases e; subst e2; simp at hd)).mono ?_
      rintro _ rfl
      rw [w1, w2, w3, w4]
      refine FF.x_anil ?_
      refine FF.OkO.of rfl ?_
      refine FF.x_anil ?_
      try dsimp only [List.set_cons_zero, List.set_cons_succ]
      refine o_appR (by rw [List.length_replicate]; omega) ?_
      refine FF.nxt_nx ?_
      try dsimp only [List.set_cons_zero, List.set_cons_succ]
      refine FF.x_nil ?_
      try dsimp only [List.set_cons_zero, List.set_cons_succ]
      refine ⟨_, rfl, ?_⟩
      have e : ∀ n, List.replicate n dueL ++ [D.lst [D.str (Str.ofString "form"), dueK 1, dueK 0, dueK 0]] = List.replicate (n + 1) dueL := fun n => (List.replicate_succ' ..).symm
      rw [e]
    rintro s h ⟨d11, rfl, rfl⟩
    refine ⟨rfl, ?_⟩
    refine FF.nxt_nx ?_
    try dsimp only [List.set_cons_zero, List.set_cons_succ]
    refine FF.x_cons ?_
    refine FF.x_ret ?_
    refine FF.x_cmp ?_
    refine FF.x_bi ?_
    refine FF.x_acons ?_
    refine FF.x_var (by rfl) ?_
    refine FF.x_anil ?_
    try dsimp only [List.set_cons_zero, List.set_cons_succ]
    obtain ⟨g1, g2, g3⟩ := dues_good
    refine o_reprAt (ds := [dueL, dueL]) reel_at g1 (by omega) (by omega) ?_
    refine FF.x_bi ?_
    refine FF.x_acons ?_
    refine FF.x_bin ?_
    refine FF.x_lst ?_
    refine FF.x_acons ?_
    refine FF.x_lst ?_
    refine FF.x_acons ?_
    refine FF.x_const ?_
    refine FF.x_acons ?_
    refine FF.x_tup ?_
    refine FF.x_acons ?_
    refine FF.x_const ?_
    refine FF.x_acons ?_
    refine FF.x_const ?_
    refine FF.x_anil ?_
    refine FF.OkO.of rfl ?_
    refine FF.x_acons ?_
    refine FF.x_tup ?_
    refine FF.x_acons ?_
    refine FF.x_const ?_
    refine FF.x_acons ?_
    refine FF.x_const ?_
    refine FF.x_anil ?_
    refine FF.OkO.of rfl ?_
    refine FF.x_acons ?_
    refine FF.x_tup ?_
    refine FF.x_acons ?_
    refine FF.x_const ?_
    refine FF.x_acons ?_
    refine FF.x_const ?_
    refine FF.x_anil ?_
    refine FF.OkO.of rfl ?_
    refine FF.x_anil ?_
    refine FF.OkO.of rfl ?_
    refine FF.x_anil ?_
    refine FF.OkO.of rfl ?_
    refine FF.x_const ?_
    refine FF.OkO.of rfl ?_
    refine FF.x_anil ?_
    try dsimp only [List.set_cons_zero, List.set_cons_succ]
    refine o_repr (d := .lst [dueL, dueL]) g1 (by omega) (by omega) ?_
    refine FF.OkO.of rfl ?_
    refine FF.nxt_rt ?_
    try dsimp only [List.set_cons_zero, List.set_cons_succ]
    refine FF.end_rt ?_
    try dsimp only [List.set_cons_zero, List.set_cons_succ]
    rw [beqS]
    exact thaw1_pure rfl
theorem reel_at (n : Nat) : ReelOk (run tbl (n + 1) 1) := (reelOk : ReelOk (runDef (run tbl n) R_reel))
theorem draw_at (n : Nat) : DrawOk (run tbl (n + 1) 2) := (draw_ok : DrawOk (runDef (run tbl n) R_draw))
theorem pick_at (n : Nat) : PickOk (run tbl (n + 2) 3) := fun ds h0 h1 hp => (pick_ok (draw_at n) h0 h1 hp : Draws (runDef (run tbl (n + 1)) R_pick) _ _)
theorem size_at (n : Nat) : ∀ step : Int, 1 ≤ step → step ≤ 64 → Draws (run tbl (n + 3) 4) [.ref 1, .int step] (IntIn 1 T30) := fun step h0 h1 => (size_ok (draw_at (n + 1)) (pick_at n) h0 h1 : Draws (runDef (run tbl (n + 2)) R_size) _ _)
theorem book_at (n : Nat) {many : Nat} (m : many ≤ 1000) : Draws (run tbl (n + 4) 5) [.ref 1, .int many] (BookIn many) := (book_ok (draw_at (n + 2)) (pick_at (n + 1)) (size_at n) m : Draws (runDef (run tbl (n + 3)) R_book) _ _)
theorem mixed_at (n : Nat) {ns : List Int} (m : ns.length ≤ 1000) : Draws (run tbl (n + 2) 18) [.ref 1, .lst (ns.map .int)] (ListPerm ns) := (mixed_ok (draw_at n) m : Draws (runDef (run tbl (n + 1)) R_mixed) _ _)
theorem far_at (n : Nat) : FarOk (run tbl (n + 1) 156) := (far_ok : FarOk (runDef (run tbl n) d_q_law_far))
theorem oddk_at (n : Nat) : OddKOk (run tbl (n + 3) 157) := (oddk_ok (pick_at n) (far_at (n + 1)) : OddKOk (runDef (run tbl (n + 2)) d_q_law_odd_kind))
theorem spoilt_at (n : Nat) : SpoiltOk (run tbl (n + 4) 158) := (spoilt_ok (draw_at (n + 2)) (pick_at (n + 1)) (oddk_at n) : SpoiltOk (runDef (run tbl (n + 3)) d_q_law_spoilt))
theorem lint_at (n : Nat) : LIntOk (run tbl (n + 1) 159) := (lint_ok : LIntOk (runDef (run tbl n) d_q_law_is_int))
theorem lkind_at (n : Nat) : LKindOk (run tbl (n + 2) 160) := (lkind_ok (lint_at n) : LKindOk (runDef (run tbl (n + 1)) d_q_law_is_kind))
theorem fault_at (n : Nat) : FaultOk (run tbl (n + 3) 161) := (fault_ok (lkind_at n) : FaultOk (runDef (run tbl (n + 2)) d_q_law_fault))
theorem istup_at (n : Nat) : IsTupV (run tbl (n + 1) 83) := (istupV_ok : IsTupV (runDef (run tbl n) R_istuple))
theorem isint_at (n : Nat) : IsIntV (run tbl (n + 1) 84) := (isintV_ok : IsIntV (runDef (run tbl n) R_isint))
theorem within_at (n : Nat) : WithinV (run tbl (n + 2) 85) := (withinV_ok (isint_at n) : WithinV (runDef (run tbl (n + 1)) R_iswithin))
theorem issize_at (n : Nat) : IsSizeV (run tbl (n + 3) 86) := (issizeV_ok (within_at n) : IsSizeV (runDef (run tbl (n + 2)) R_issize))
theorem isal_at (n : Nat) : IsAlV (run tbl (n + 2) 87) := (isalV_ok (isint_at n) : IsAlV (runDef (run tbl (n + 1)) R_isal))
theorem iskind_at (n : Nat) : IsKindV (run tbl (n + 4) 88) := (iskindV_ok (issize_at n) (isal_at (n + 1)) : IsKindV (runDef (run tbl (n + 3)) R_iskind))
theorem bookerr_at (n : Nat) : BookErrV (run tbl (n + 5) 89) := (bookerrV_ok (istup_at (n + 3)) (iskind_at n) : BookErrV (runDef (run tbl (n + 4)) R_bookerr))
theorem toldOk_at (n : Nat) : ToldOk (run tbl (n + 6) 162) := (told_ok (fault_at (n + 2)) (bookerr_at n) : ToldOk (runDef (run tbl (n + 5)) d_q_law_is_told))
theorem deskI_at (n : Nat) : DeskOk (run tbl (n + 6) 9000) := (deskI_ok (bookerr_at n) : DeskOk (runDef (run tbl (n + 5)) (dInit 89)))
theorem deskM_at (n : Nat) : DeskOk (run tbl (n + 7) 9001) := (deskM_ok (deskI_at n) : DeskOk (runDef (run tbl (n + 6)) (dMake 9000)))
theorem told : ∀ ns : List Int, ns.length ≤ 63 → (∀ z ∈ ns, Builtin.Int.intBits z ≤ 1048576) → ∃ h', run tbl 8 163 [.scr ns] [] = .ok (.bl true, h') := by
  intro ns hl _
  obtain ⟨p, e, rfl⟩ := law_ok (φ := run tbl 7) (reel_at 6) (draw_at 6) (fun m h => book_at 3 h) (fun ns h => mixed_at 5 h) (oddk_at 4) (spoilt_at 3) (toldOk_at 1) (bookerr_at 2) (deskM_at 0) hl
  have z : run tbl 8 163 = runDef (run tbl 7) d_law := rfl
  rw [z]
  exact ⟨_, e⟩
end FF.k01

open PySem PySem.W PyProof.Rows
set_option maxHeartbeats 0 in
theorem PySem.Challenge.cw_fallingfields_k01_what_is_a_book_holds : PySem.Challenge.rw_fallingfields_k01_what_is_a_book.Holds := by
  w_on; o_law; k_head; (case hw => w_witness2)
  k_fill
  refine FF.law_walk (l := PySem.Challenge.rw_fallingfields_k01_what_is_a_book) (n := 63) (k := 8) (x := "script") (fx := FF.run FF.k01.tbl 8 163) rfl (by decide) rfl ⟨rfl, by decide, by decide⟩ FF.k01.told (fun w h Y => PySem.W.kIn_of Y) (fun _ => by kernel_rfl) ?F
  case F =>
    intro w mg fa h KX G hmg
    refine' FF.k01.head_mk KX G hmg ?a0 ?l0 ?c0 ?k0 ?a1 ?l1 ?c1 ?k1 ?a2 ?l2 ?c2 ?k2 ?a3 ?l3 ?c3 ?k3 ?a4 ?l4 ?c4 ?k4 ?a5 ?l5 ?c5 ?k5 ?a6 ?l6 ?c6 ?k6 ?a7 ?l7 ?c7 ?k7 ?a8 ?l8 ?c8 ?k8 ?a9 ?l9 ?c9 ?k9 ?a10 ?l10 ?c10 ?k10 ?a11 ?l11 ?c11 ?k11 ?a12 ?l12 ?c12 ?k12 ?a13 ?l13 ?c13 ?k13 ?a14 ?l14 ?c14 ?k14 ?a15 ?l15 ?c15 ?k15 ?a16 ?l16 ?c16 ?k16 ?a17 ?l17 ?c17 ?k17 ?a18 ?l18 ?c18 ?k18 ?a19 ?l19 ?c19 ?k19 ?a20 ?l20 ?c20 ?k20 ?y0 ?v0 ?y1 ?y2 ?z0 ?z1 ?z2 ?z3 ?z4 ?z5 ?z6 ?z7 ?z8 ?z9 ?z10 ?z11 ?xg_Unfit ?xa_Unfit ?xg_Desk ?xi_Desk ?xl_Desk ?xc_Desk ?xb_Desk ?xs_Desk ?xh_Desk ?xn_Desk ?xp_Desk ?xq_Desk ?xr_Desk ?xw_Unfit ?xn_Unfit
    (case a0 => k_is)
    (case l0 => k_is)
    (case c0 => k_is)
    (case k0 => k_is)
    (case a1 => k_is)
    (case l1 => k_is)
    (case c1 => k_is)
    (case k1 => k_is)
    (case a2 => k_is)
    (case l2 => k_is)
    (case c2 => k_is)
    (case k2 => k_is)
    (case a3 => k_is)
    (case l3 => k_is)
    (case c3 => k_is)
    (case k3 => k_is)
    (case a4 => k_is)
    (case l4 => k_is)
    (case c4 => k_is)
    (case k4 => k_is)
    (case a5 => k_is)
    (case l5 => k_is)
    (case c5 => k_is)
    (case k5 => k_is)
    (case a6 => k_is)
    (case l6 => k_is)
    (case c6 => k_is)
    (case k6 => k_is)
    (case a7 => k_is)
    (case l7 => k_is)
    (case c7 => k_is)
    (case k7 => k_is)
    (case a8 => k_is)
    (case l8 => k_is)
    (case c8 => k_is)
    (case k8 => k_is)
    (case a9 => k_is)
    (case l9 => k_is)
    (case c9 => k_is)
    (case k9 => k_is)
    (case a10 => k_is)
    (case l10 => k_is)
    (case c10 => k_is)
    (case k10 => k_is)
    (case a11 => k_is)
    (case l11 => k_is)
    (case c11 => k_is)
    (case k11 => k_is)
    (case a12 => k_is)
    (case l12 => k_is)
    (case c12 => k_is)
    (case k12 => k_is)
    (case a13 => k_is)
    (case l13 => k_is)
    (case c13 => k_is)
    (case k13 => k_is)
    (case a14 => k_is)
    (case l14 => k_is)
    (case c14 => k_is)
    (case k14 => k_is)
    (case a15 => k_is)
    (case l15 => k_is)
    (case c15 => k_is)
    (case k15 => k_is)
    (case a16 => k_is)
    (case l16 => k_is)
    (case c16 => k_is)
    (case k16 => k_is)
    (case a17 => k_is)
    (case l17 => k_is)
    (case c17 => k_is)
    (case k17 => k_is)
    (case a18 => k_is)
    (case l18 => k_is)
    (case c18 => k_is)
    (case k18 => k_is)
    (case a19 => k_is)
    (case l19 => k_is)
    (case c19 => k_is)
    (case k19 => k_is)
    (case a20 => k_is)
    (case l20 => k_is)
    (case c20 => k_is)
    (case k20 => k_is)
    (case y0 => k_is)
    (case v0 => k_is)
    (case y1 => k_is)
    (case y2 => k_is)
    (case z0 => k_is)
    (case z1 => k_is)
    (case z2 => k_is)
    (case z3 => k_is)
    (case z4 => k_is)
    (case z5 => k_is)
    (case z6 => k_is)
    (case z7 => k_is)
    (case z8 => k_is)
    (case z9 => k_is)
    (case z10 => k_is)
    (case z11 => k_is)
    (case xg_Unfit => k_is)
    (case xa_Unfit => kernel_rfl)
    (case xg_Desk => k_is)
    (case xi_Desk => k_is)
    (case xl_Desk => k_is)
    (case xc_Desk => k_is)
    (case xb_Desk => kernel_rfl)
    (case xs_Desk => k_is)
    (case xh_Desk => k_is)
    (case xn_Desk => k_is)
    (case xp_Desk => k_is)
    (case xq_Desk => k_is)
    (case xr_Desk => k_is)
    (case xw_Unfit => kernel_rfl)
    (case xn_Unfit => kernel_rfl)
