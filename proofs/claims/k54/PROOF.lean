import PyProof.Rows.All
import Wide.All
import OpenK.AllK
import Wide.FinOn
import PySem.Challenge.RW_fallingfields_k54_errors_of_all_classes
import HandS.ForMost
import KE.KDictKeyed
import KE.KDictPairs
import KE.KDictDisplayH
import HandS.Lambda
import HandS.ExcField
import HandS.ExcIs
import HandS.IsInst
import HandS.TupMul
import PyProof.StrOps2
import HandS.TupAny
import HandS.Call
import HandS.Style
import PyProof.EqAt
import PyProof.EqKinds
import PyProof.FactsAll.tuple_2
import HandS.Wide
import HandS.Text
import HandS.Deep
import KE.KTupSum
import KE.DataMinMax
import KE.SortData
import HandS.Flow
import HandS.EndBits
import HandS.Zip
import KE.GoesZip
import KE.GoesMore
import KE.GoesEnum
import HandS.Conv
import HandS.More
import HandS.SetFor
import HandS.Strs
import HandS.SortKw
import KE.KSortKey
import KE.SortKeyHeap
import KE.KNestM
import HandS.Codes
import HandS.Exc
import HandS.ExcOwn
import HandS.RaiseMore
import HandS.ExcInit
import HandS.ExcSuper
import KE.KExcSuper
import KE.KExcIs
import HandS.Star
import HandS.FStr
import HandS.ExcValue
import HandS.ExcBuiltin
import PyProof.ReprBulk
set_option Elab.async false
set_option linter.all false
set_option maxRecDepth 100000
set_option maxHeartbeats 3999999
/-! FFCore: a small language of data, its evaluator. -/
namespace FF
open PySem


/-- data: trees; `ref n` a mutable cell of the evaluator's own heap; `scr` the script -/
inductive D where
  | non | bl (b : Bool) | int (i : Int) | str (s : Str)
  | tup (ds : List D) | lst (ds : List D) | scr (ns : List Int) | ktp (ns : List Int) | kpp (ps : List (Int × Int))
  | ref (n : Nat) | dct (kv : List D) | exn (c : String) (fs : List D) | opq (k : Nat)
  deriving Inhabited

mutual
def D.beq : D → D → Bool
  | .non, .non => true
  | .bl a, .bl b => a == b
  | .int a, .int b => a == b
  | .str a, .str b => a == b
  | .tup a, .tup b => D.beqs a b
  | .lst a, .lst b => D.beqs a b
  | .scr a, .scr b => a == b
  | .ktp a, .ktp b => a == b
  | .kpp a, .kpp b => a == b
  | .ref a, .ref b => a == b
  | .dct a, .dct b => D.beqs a b
  | .exn c a, .exn d b => c == d && D.beqs a b
  | .opq a, .opq b => a == b
  | _, _ => false
def D.beqs : List D → List D → Bool
  | [], [] => true
  | a :: as, b :: bs => D.beq a b && D.beqs as bs
  | _, _ => false
end

abbrev Key := L2.Key

/-- what stands in a cell -/
inductive Ob where
  | lst (ds : List D) | dct (kvs : List (Key × D)) | dctT (kvs : List (List Key × D)) | dctN (kvs : List (D × D)) | ins (c : String) (fs : List (Str × D)) | dead
  deriving Inhabited
abbrev Hq := List Ob
abbrev Env' := List (Option D)

/-- what comes of a reckoning -/
inductive R (α : Type) where
  | ok (a : α) | exc (e : D) (h : Hq) | stuck
  deriving Inhabited
@[reducible] def R.bind {α β : Type} (x : R α) (f : α → R β) : R β := match x with | .ok a => f a | .exc e h => .exc e h | .stuck => .stuck
/-- what raises is nothing here -/
def hush {α : Type} : R α → R α
  | .exc _ _ => .stuck
  | r => r
def lift {α : Type} : Option α → R α
  | some a => .ok a
  | none => .stuck
def ofO {α : Type} (h : Hq) : Option α → Option (α × Hq)
  | some a => some (a, h)
  | none => none

inductive Bi where
  | len | int | abs | max | min | max2 | min2 | sum | tuple | list | range | repr | str | divmod | set | sorted | ss | all | bool | isint | isbool | isstr | istup | dict | tupleK | tupleP | sortK | xfld (f : Str) | reprL | minN | tupleM | opq0 | reprV | dct1 | mkE (c : String) | isE (f : String)
  deriving DecidableEq, Inhabited
inductive Me where
  | append | pop | popAt | popKey | extend | insert | count | index | get2 | setdefault | join | split | replace
  deriving DecidableEq, Inhabited

mutual
inductive Ex where
  | var (i : Nat)
  | const (d : D)
  | glob (x : Str) (d : D)
  | bin (op : Operator) (live : Bool) (a b : Ex)
  | neg (a : Ex)
  | notV (a : Ex)
  | cmp (op : CmpOp) (a b : Ex)
  | cmp2 (op op' : CmpOp) (a b c : Ex)
  | andV (a b : Ex)
  | orV (a b : Ex)
  | ife (t a b : Ex)
  | tup (es : Exs)
  | tupK (es : Exs)
  | lst (live : Bool) (es : Exs)
  | dct (live : Bool) (es : Exs)
  | comp (live : Bool) (tg : Tg) (it : It) (ifs : Exs) (elt : Ex) (own : List Nat)
  | ix (a i : Ex)
  | slice (a : Ex) (lo hi : Exo)
  | rev (a : Ex)
  | call (f : Nat) (args : Exs)
  | callK (f : Nat) (perm : List Nat) (args : Exs)
  | callN (f : Nat) (args : Exs)
  | callNK (f : Nat) (perm : List Nat) (args : Exs)
  | bi (f : Bi) (live : Bool) (args : Exs)
  | me (m : Me) (o : Ex) (args : Exs)
  | lrng (live : Bool) (it : It)
  | trng (it : It)
  | dnew (tk : Bool)
  | newN
  | getN (o k d : Ex)
  | dget (x k d : Ex)
  | dispN (k v : Ex)
  | listN (live : Bool) (o : Ex)
  | sndN (live : Bool) (a b : Nat) (o : Ex)
  | star (a : Ex)
  | mkO (f : Nat) (args : Exs)
inductive Exs where
  | nil | cons (e : Ex) (es : Exs)
inductive Exo where
  | no | yes (e : Ex)
inductive It where
  | ex (e : Ex) | range1 (a : Ex) | range2 (a b : Ex) | enum (i : It) | zip (a b : Ex)
inductive Tg where
  | name (i : Nat) | tup (ts : Tgs)
inductive Tgs where
  | nil | cons (t : Tg) (ts : Tgs)
end
/-- an except clause of the laws' one form: return [tag, err.field?, True] -/
structure Hand where
  cls : String
  tag : Str
  fld : Bool

mutual
inductive Sm where
  | set (tg : Tg) (e : Ex)
  | par (is : List Nat) (es : Exs)
  | setIx (o i e : Ex)
  | setN (o i e : Ex)
  | expr (e : Ex)
  | ret (e : Ex)
  | retN
  | ite (t : Ex) (a b : Sms)
  | for (tg : Tg) (it : It) (body : Sms)
  | while (t : Ex) (body : Sms)
  | brk | cont | pass
  | never
  | raise (c : String) (es : Exs)
  | tryR (body : Sms) (hs : List Hand)
  | tryE (body : Sms) (c : String)
  | tryG (body : Sms) (cs : List String) (hs : Hds)
inductive Sms where
  | nil | cons (s : Sm) (ss : Sms)
/-- clauses: a class, the slot of a name, a suite -/
inductive Hds where
  | nil | cons (c : String) (i : Option Nat) (b : Sms) (r : Hds)
end

/-! ### plain pieces -/
/-- both below a line that no reckoning of ours passes -/
def wide (i : Int) : Bool := decide (i.natAbs.log2 < 400000)
def mulOk (i j : Int) : Bool := decide (-(2 ^ 64) < i ∧ i < 2 ^ 64) || decide (-(2 ^ 64) < j ∧ j < 2 ^ 64) || (wide i && wide j)
/-- a list's place by an index of any sign -/
def at? {α : Type} (xs : List α) (i : Int) : Option α := L2.atI xs i
def cut {α : Type} (xs : List α) (lo hi : Option Int) : List α := (xs.drop (HT.sIx xs.length 0 lo)).take (HT.sIx xs.length xs.length hi - HT.sIx xs.length 0 lo)
def lineOk (n : Nat) : Bool := decide (n ≤ 16777216)

def kget {κ : Type} [DecidableEq κ] (kvs : List (κ × D)) (k : κ) : Option D := (kvs.find? fun kv => decide (kv.1 = k)).map (·.2)
def kput {κ : Type} [DecidableEq κ] (kvs : List (κ × D)) (k : κ) (v : D) : List (κ × D) :=
  if (kvs.any fun kv => decide (kv.1 = k)) = true then kvs.map (fun kv => if kv.1 = k then (kv.1, v) else kv) else kvs ++ [(k, v)]
def kdrop {κ : Type} [DecidableEq κ] (kvs : List (κ × D)) (k : κ) : List (κ × D) := kvs.filter fun kv => decide (kv.1 ≠ k)
def keyOf : D → Option Key
  | .int i => some (.inl i)
  | .str s => some (.inr s)
  | _ => none
def keysOf : List D → Option (List Key)
  | [] => some []
  | d :: ds => match keyOf d, keysOf ds with | some k, some ks => some (k :: ks) | _, _ => none

def pairsOf : List D → Option (List (Key × D))
  | [] => some []
  | k :: v :: r => match keyOf k, pairsOf r with | some k, some kvs => some ((k, v) :: kvs) | _, _ => none
  | _ => none
/-- a pair of ints -/
def pairII (p : Int × Int) : D := .tup [.int p.1, .int p.2]
def pairsII : List D → Option (List (Int × Int))
  | [] => some []
  | .tup [.int a, .int b] :: r => match pairsII r with | some ps => some ((a, b) :: ps) | none => none
  | _ => none
/-! dicts whose keys are tuples, nested -/
mutual
def nk : D → Option NestedKey
  | .non => some .none
  | .bl b => some (.num (if b = true then 1 else 0))
  | .int i => some (.num i)
  | .tup ds => (nks ds).map .tup
  | .ktp ns => some (.tup (ns.map .num))
  | _ => none
def nks : List D → Option (List NestedKey)
  | [] => some []
  | d :: ds => match nk d, nks ds with | some k, some ks => some (k :: ks) | _, _ => none
end
def isTupD : D → Bool
  | .tup _ => true
  | .ktp _ => true
  | .kpp _ => true
  | _ => false
def keyN (d : D) : Option NestedKey := if isTupD d then (match nk d with | some k => if k.depth ≤ 8 then some k else none | none => none) else none
def nget (kvs : List (D × D)) (k : NestedKey) : Option D := (kvs.find? fun p => decide (keyN p.1 = some k)).map (·.2)
def nput (kvs : List (D × D)) (d : D) (k : NestedKey) (v : D) : List (D × D) :=
  if (kvs.any fun p => decide (keyN p.1 = some k)) = true then kvs.map (fun p => if keyN p.1 = some k then (p.1, v) else p) else kvs ++ [(d, v)]
/-- pairs of a key and a thing -/
def pairs2 : List D → Option (List (Key × D))
  | [] => some []
  | .tup [k, v] :: r => match keyOf k, pairs2 r with | some k, some kvs => some ((k, v) :: kvs) | _, _ => none
  | _ => none
/-- the items of a sequence -/
def itemsOf (h : Hq) : D → Option (List D)
  | .tup ds => some ds
  | .lst ds => some ds
  | .scr ns => some (ns.map .int)
  | .ktp ns => some (ns.map .int)
  | .kpp ps => some (ps.map pairII)
  | .ref n => match h[n]? with | some (.lst ds) => some ds | _ => none
  | _ => none
def intsOf : List D → Option (List Int)
  | [] => some []
  | .int i :: ds => (intsOf ds).map (i :: ·)
  | _ => none
def blsOf : List D → Option (List Bool)
  | [] => some []
  | .bl i :: ds => (blsOf ds).map (i :: ·)
  | _ => none
def strsOf : List D → Option (List Str)
  | [] => some []
  | .str i :: ds => (strsOf ds).map (i :: ·)
  | _ => none

def truth (h : Hq) : D → Option Bool
  | .non => some false
  | .bl b => some b
  | .int i => some (i != 0)
  | .str s => if lineOk s.length then some (s.length != 0) else none
  | .tup ds => some (!ds.isEmpty)
  | .lst ds => some (!ds.isEmpty)
  | .ref n => match h[n]? with | some (.lst ds) => some (!ds.isEmpty) | some (.dct kvs) => some (!kvs.isEmpty) | _ => none
  | _ => none

/-! ### data without cells -/
mutual
def D.pure : D → Bool
  | .ref _ => false
  | .tup ds => D.pures ds
  | .lst ds => D.pures ds
  | .dct ds => D.pures ds
  | .exn _ ds => D.pures ds
  | .scr _ => true
  | _ => true
def D.pures : List D → Bool
  | [] => true
  | d :: ds => d.pure && D.pures ds
end
mutual
/-- the tree of data as it stands in the cells, g for what stands in a cell -/
def D.melt (g : List D → Option (List D)) (h : Hq) : D → Option D
  | .ref n => match h[n]? with
    | some (.lst ds) => (g ds).map .lst
    | _ => none
  | .tup ds => (D.melts g h ds).map .tup
  | .lst ds => (D.melts g h ds).map .lst
  | .dct ds => (D.melts g h ds).map .dct
  | .exn c ds => (D.melts g h ds).map (.exn c)
  | d => some d
def D.melts (g : List D → Option (List D)) (h : Hq) : List D → Option (List D)
  | [] => some []
  | d :: ds => match D.melt g h d, D.melts g h ds with | some a, some b => some (a :: b) | _, _ => none
end
def meltN (h : Hq) : Nat → List D → Option (List D)
  | 0, ds => if D.pures ds then some ds else none
  | k + 1, ds => D.melts (meltN h k) h ds
def melt1 (h : Hq) (d : D) : Option D := match meltN h 3 [d] with | some [x] => some x | _ => none

/-! ### operators -/
def mkL (live : Bool) (ds : List D) (h : Hq) : Option (D × Hq) :=
  if lineOk ds.length then (if live then some (.ref h.length, h ++ [.lst ds]) else some (.lst ds, h)) else none
def mkK (ds : List D) (h : Hq) : Option (D × Hq) := match intsOf ds with
  | some ns => if lineOk ns.length then some (.ktp ns, h) else none
  | none => none
def mkT (ds : List D) (h : Hq) : Option (D × Hq) := if lineOk ds.length then some (.tup ds, h) else none

/-- the list of a list (a tree or a cell) -/
def lstOf (h : Hq) : D → Option (List D)
  | .lst ds => some ds
  | .ref n => match h[n]? with | some (.lst ds) => some ds | _ => none
  | _ => none

/-- .. or the script's -/
def sqlOf (h : Hq) : D → Option (List D)
  | .scr ns => some (ns.map .int)
  | d => lstOf h d
def int2 (C : Int → Int → Bool) (g : Int → Int → Int) (x y : D) (h : Hq) : Option (D × Hq) :=
  match x, y with
  | .int i, .int j => if C i j then some (.int (g i j), h) else none
  | _, _ => none
def addD (live : Bool) (x y : D) (h : Hq) : Option (D × Hq) :=
  match x, y with
  | .int i, .int j => some (.int (i + j), h)
  | .str i, .str j => if lineOk (i.length + j.length) then some (.str (i ++ j), h) else none
  | .tup i, .tup j => if lineOk (i.length + j.length) then some (.tup (i ++ j), h) else none
  | .ktp i, .ktp j => if lineOk (i.length + j.length) then some (.ktp (i ++ j), h) else none
  | a, b => match lstOf h a, lstOf h b with
    | some i, some j => if lineOk (i.length + j.length) then mkL live (i ++ j) h else none
    | _, _ => none
/-- a text so many times -/
def strRep (z : Str) (k : Int) : Str := if k < 1 then Str.empty else if (k == 1 || z.length == 0) = true then z else ⟨(List.replicate k.toNat z.cps).foldl (· ++ ·) #[]⟩
def mulD (live : Bool) (x y : D) (h : Hq) : Option (D × Hq) :=
  match y with
  | .int k => match x with
    | .int i => if mulOk i k then some (.int (i * k), h) else none
    | .tup i => if i ≠ [] ∧ -1000 ≤ k ∧ k ≤ 1000 ∧ i.length ≤ 1000 then some (.tup (List.replicate k.toNat i).flatten, h) else none
    | .ktp i => if i ≠ [] ∧ 1 ≤ k ∧ k ≤ 1000 ∧ i.length ≤ 1000 then some (.ktp (List.replicate k.toNat i).flatten, h) else none
    | .str z => if 0 ≤ k ∧ k ≤ 1000 ∧ z.length ≤ 1000 then some (.str (strRep z k), h) else none
    | a => match lstOf h a with
      | some i => if -(2 ^ 63) ≤ k ∧ k < 2 ^ 63 ∧ lineOk (i.length * k.toNat) then mkL live (List.replicate k.toNat i).flatten h else none
      | none => none
  | _ => none
def powOk (i j : Int) : Bool := decide (0 ≤ j ∧ j ≤ 1000000 ∧ i.natAbs < 2 ^ 64)
def binop (op : Operator) (live : Bool) (x y : D) (h : Hq) : Option (D × Hq) :=
  match op with
  | .Add => addD live x y h
  | .Sub => int2 (fun _ _ => true) (fun i j => i - j) x y h
  | .Mult => mulD live x y h
  | .FloorDiv => int2 (fun _ j => decide (0 < j ∧ j.natAbs.log2 < 9000)) (fun i j => i / j) x y h
  | .Mod => int2 (fun _ j => decide (0 < j)) (fun i j => i % j) x y h
  | .Pow => int2 powOk (fun i j => i ^ j.toNat) x y h
  | .LShift => int2 powOk (fun i j => i * 2 ^ j.toNat) x y h
  | .RShift => int2 (fun _ j => decide (0 ≤ j)) (fun i j => i / 2 ^ j.toNat) x y h
  | .BitAnd => int2 (fun _ _ => true) Builtin.bitAnd x y h
  | _ => none

mutual
/-- data as the library's trees -/
def D.py : D → Option PyData
  | .non => some .none
  | .bl b => some (.bool b)
  | .int i => some (.int i)
  | .str s => some (.str s)
  | .tup ds => (D.pys ds).map .tuple
  | .lst ds => (D.pys ds).map .list
  | .ktp ns => some (.tuple (ns.map .int))
  | .kpp ps => some (.tuple (ps.map fun p => .tuple [.int p.1, .int p.2]))
  | _ => none
def D.pys : List D → Option (List PyData)
  | [] => some []
  | d :: ds => match D.py d, D.pys ds with | some a, some b => some (a :: b) | _, _ => none
end
def pyOf (h : Hq) (d : D) : Option PyData := (melt1 h d).bind D.py
/-- keys and values by turns -/
def kvPairs : List PyData → Option (List (PyData × PyData))
  | [] => some []
  | k :: v :: r => match kvPairs r with | some ps => some ((k, v) :: ps) | none => none
  | _ => none
mutual
/-- data as trees, dicts among them -/
def D.pyR : D → Option PyData
  | .non => some .none
  | .bl b => some (.bool b)
  | .int i => some (.int i)
  | .str s => some (.str s)
  | .tup ds => (D.pyRs ds).map .tuple
  | .lst ds => (D.pyRs ds).map .list
  | .ktp ns => some (.tuple (ns.map .int))
  | .kpp ps => some (.tuple (ps.map fun p => .tuple [.int p.1, .int p.2]))
  | .dct ds => match D.pyRs ds with | some ps => (kvPairs ps).map .dict | none => none
  | _ => none
def D.pyRs : List D → Option (List PyData)
  | [] => some []
  | d :: ds => match D.pyR d, D.pyRs ds with | some a, some b => some (a :: b) | _, _ => none
end
/-- data that the library's repr, == take -/
def showOk (p : PyData) : Bool := p.showable && !p.hasDict && decide (p.depth ≤ 64) && lineOk p.shown.length
def eqPy (p q : PyData) : Option Bool := if SeqAt.shaped p && SeqAt.shaped q then some (PyData.eqv p q) else none
/-- scalars alike -/
def scalEq : D → D → Option Bool
  | .non, .non => some true
  | .int a, .int b => some (a == b)
  | .str a, .str b => some (a == b)
  | .bl a, .bl b => some (a == b)
  | _, _ => none
/-- beside the empty list: by the length alone -/
def eqNil (h : Hq) (x y : D) : Option Bool := match lstOf h x, lstOf h y with
  | some ds, some [] => some ds.isEmpty
  | _, _ => match x, y with
    | .tup ds, .tup [] => some ds.isEmpty
    | _, _ => none
def eqD (h : Hq) (x y : D) : Option Bool :=
  match scalEq x y with
  | some b => some b
  | none => match pyOf h x, pyOf h y with
    | some p, some q => eqPy p q
    | _, _ => eqNil h x y
def lexLt : List Int → List Int → Bool := HT.lexLt
def ltD : D → D → Option Bool
  | .int a, .int b => some (decide (a < b))
  | .tup a, .tup b => match intsOf a, intsOf b with | some x, some y => some (HT.lexLt x y) | _, _ => none
  | _, _ => none
def flatD : D → Bool
  | .non => true | .bl _ => true | .int _ => true | .str _ => true | _ => false
def eqFl : D → D → Bool
  | .non, .non => true
  | .bl a, .bl b => a == b
  | .int a, .int b => a == b
  | .str a, .str b => a == b
  | .bl a, .int j => (if a then 1 else 0) == j
  | .int i, .bl b => i == (if b then 1 else 0)
  | _, _ => false
/-- x in xs of flat things; of plain data -/
def inD (h : Hq) (x y : D) : Option Bool :=
  match y with
  | .str b => match x with | .str a => some (!(Builtin.Str.occurrences b a 0 b.length 1).isEmpty) | _ => none
  | .ref n => match h[n]? with
    | some (.dct kvs) => (keyOf x).map fun k => (kget kvs k).isSome
    | some (.dctT kvs) => match x with | .tup ks => (keysOf ks).map fun k => (kget kvs k).isSome | _ => none
    | some (.lst ds) => if flatD x && ds.all flatD then some (ds.any fun d => eqFl d x) else none
    | _ => none
  | y => match itemsOf h y with
    | some ds => if flatD x && ds.all flatD then some (ds.any fun d => eqFl d x) else match pyOf h x, pyOf h y with
      | some d, some (.tuple ps) => if SeqAt.shaped d && SeqAt.shaped (.tuple ps) && decide (d.depth ≤ 60) then some (ps.any fun z => PyData.eqv z d) else none
      | some d, some (.list ps) => if SeqAt.shaped d && SeqAt.shaped (.list ps) then some (ps.any fun z => PyData.eqv z d) else none
      | _, _ => none
    | none => none

def intC (g : Int → Int → Bool) (x y : D) (h : Hq) : Option (D × Hq) :=
  match x, y with
  | .int i, .int j => some (.bl (g i j), h)
  | _, _ => none
def isNon : D → Bool
  | .non => true
  | _ => false
/-- is, is not: of two bools -/
def isBB (g : Bool → Bool) (x y : D) (h : Hq) : Option (D × Hq) :=
  match x, y with
  | .bl a, .bl b => some (.bl (g (decide (a = b))), h)
  | _, _ => none
def cmpop (op : CmpOp) (x y : D) (h : Hq) : Option (D × Hq) :=
  match op with
  | .Eq => ofO h ((eqD h x y).map .bl)
  | .NotEq => ofO h ((eqD h x y).map fun b => .bl (!b))
  | .Lt => ofO h ((ltD x y).map .bl)
  | .LtE => intC (fun a b => decide (a ≤ b)) x y h
  | .Gt => intC (fun a b => decide (b < a)) x y h
  | .GtE => intC (fun a b => decide (b ≤ a)) x y h
  | .Is => if isNon y then some (.bl (isNon x), h) else isBB id x y h
  | .IsNot => if isNon y then some (.bl (!isNon x), h) else isBB not x y h
  | .In => ofO h ((inD h x y).map .bl)
  | .NotIn => ofO h ((inD h x y).map fun b => .bl (!b))

def ixD (x i : D) (h : Hq) : Option (D × Hq) :=
  match x, i with
  | .str z, .int i => if lineOk z.length then (match at? z.cps.toList i with | some c => some (.str ⟨#[c]⟩, h) | none => none) else none
  | .ref n, i => match h[n]? with
    | some (.lst ds) => match i with | .int i => ofO h (at? ds i) | _ => none
    | some (.dct kvs) => match keyOf i with | some k => ofO h (kget kvs k) | none => none
    | some (.dctT kvs) => match i with | .tup ks => (match keysOf ks with | some k => ofO h (kget kvs k) | none => none) | _ => none
    | _ => none
  | x, .int i => match itemsOf h x with | some ds => ofO h (at? ds i) | none => none
  | _, _ => none
def hset (h : Hq) (n : Nat) (o : Ob) : Hq := h.set n o
def setD (x i v : D) (h : Hq) : Option Hq :=
  match x with
  | .ref n => match h[n]? with
    | some (.lst ds) => match i with
      | .int i => match L2.ixN ds.length i with | some j => some (hset h n (.lst (ds.set j v))) | none => none
      | _ => none
    | some (.dct kvs) => match keyOf i with | some k => if kvs.length < 16777216 then some (hset h n (.dct (kput kvs k v))) else none | none => none
    | some (.dctT kvs) => match i with | .tup ks => (match keysOf ks with | some k => if kvs.length < 16777216 then some (hset h n (.dctT (kput kvs k v))) else none | none => none) | _ => none
    | _ => none
  | _ => none
def mkD (live : Bool) (ds : List D) (h : Hq) : Option (D × Hq) :=
  match pairsOf ds with
  | some kvs => if kvs.length ≤ 15 then (if live then some (.ref h.length, h ++ [.dct (kvs.foldl (fun acc kv => kput acc kv.1 kv.2) [])]) else if (kvs.map (·.1)).Nodup then some (.dct ds, h) else none) else none
  | none => none
def sliceD (x : D) (lo hi : Option Int) (h : Hq) : Option (D × Hq) :=
  match x with
  | .ktp ns => some (.ktp (cut ns lo hi), h)
  | .tup ds => some (.tup (cut ds lo hi), h)
  | .str z => if lineOk z.length then some (.str (L2.cutS z lo hi), h) else none
  | x => match sqlOf h x with | some ds => some (.lst (cut ds lo hi), h) | none => none

def foldMax : List Int → Option Int
  | [] => none
  | a :: l => some (l.foldl max a)
def foldMin : List Int → Option Int
  | [] => none
  | a :: l => some (l.foldl min a)
def insI (x : Int) : List Int → List Int
  | [] => [x]
  | y :: r => if x ≤ y then x :: y :: r else y :: insI x r
def sortI : List Int → List Int
  | [] => []
  | x :: r => insI x (sortI r)
/-- sorted, each once -/
def insU (x : Int) : List Int → List Int
  | [] => [x]
  | y :: r => if x < y then x :: y :: r else if x = y then y :: r else y :: insU x r
def sortU : List Int → List Int
  | [] => []
  | x :: r => insU x (sortU r)
def tupsI : List D → Option (List (List Int))
  | [] => some []
  | .tup ds :: r => match intsOf ds, tupsI r with | some a, some b => some (a :: b) | _, _ => none
  | _ => none
def lessT (a y : List Int) : List Int := if HT.lexLt y a then y else a
def foldMinT : List (List Int) → Option (List Int)
  | [] => none
  | a :: l => some (l.foldl lessT a)
def moreT (a y : List Int) : List Int := if HT.lexLt a y then y else a
def foldMaxT : List (List Int) → Option (List Int)
  | [] => none
  | a :: l => some (l.foldl moreT a)
/-- tuples of ints, sorted; how they may lie -/
def sortT (l : List (List Int)) : List (List Int) := l.mergeSort fun a b => !(HT.lexLt b a)
def sortOk (l : List (List Int)) : Bool := (l.all fun ns => !ns.isEmpty) || (match l with | [] :: _ => true | _ => false)
/-- texts, sorted -/
def leS (a b : Str) : Bool := !decide (b.cps.toList < a.cps.toList)
def sortS (l : List Str) : List Str := l.mergeSort leS
def rangeL (lo hi : Int) : List D := (List.range (hi - lo).toNat).map fun (i : Nat) => .int (lo + i)

def negD (x : D) (h : Hq) : Option (D × Hq) := match x with | .int i => some (.int (-i), h) | _ => none
def revD (x : D) (h : Hq) : Option (D × Hq) := match x with
  | .ktp ns => some (.ktp ns.reverse, h)
  | .tup ds => some (.tup ds.reverse, h)
  | x => match lstOf h x with | some ds => some (.lst ds.reverse, h) | none => none
def un1 (g : D → Hq → Option (D × Hq)) (args : List D) (h : Hq) : Option (D × Hq) := match args with | [x] => g x h | _ => none
def un2 (g : D → D → Hq → Option (D × Hq)) (args : List D) (h : Hq) : Option (D × Hq) := match args with | [x, y] => g x y h | _ => none
def lenD (x : D) (h : Hq) : Option (D × Hq) := match x with
  | .str z => if lineOk z.length then some (.int z.length, h) else none
  | .ref n => match h[n]? with
    | some (.lst ds) => some (.int ds.length, h)
    | some (.dct kvs) => some (.int kvs.length, h)
    | _ => none
  | x => match itemsOf h x with | some ds => some (.int ds.length, h) | none => none
def toIntD (x : D) (h : Hq) : Option (D × Hq) := match x with
  | .int i => some (.int i, h)
  | .bl b => some (.int (if b then 1 else 0), h)
  | .str z => if z.length ≤ 640 then (match intText? z with | some n => some (.int n, h) | none => none) else none
  | _ => none
def toBoolD (x : D) (h : Hq) : Option (D × Hq) := match x with
  | .int i => some (.bl (i != 0), h)
  | .bl b => some (.bl b, h)
  | _ => none
def absD (x : D) (h : Hq) : Option (D × Hq) := match x with
  | .int i => some (.int (if i < 0 then -i else i), h)
  | _ => none
def intsL (h : Hq) (x : D) : Option (List Int) := (lstOf h x).bind intsOf
def maxD (x : D) (h : Hq) : Option (D × Hq) := match x with
  | .tup ds => (match intsOf ds with | some ns => ofO h ((foldMax ns).map .int) | none => none)
  | x => match intsL h x with
    | some ns => ofO h ((foldMax ns).map .int)
    | none => match (lstOf h x).bind tupsI with
      | some nss => ofO h ((foldMaxT nss).map fun ns => .tup (ns.map .int))
      | none => none
def minD (x : D) (h : Hq) : Option (D × Hq) := match x with
  | .tup ds => (match intsOf ds with | some ns => ofO h ((foldMin ns).map .int) | none => none)
  | x => match intsL h x with
    | some ns => ofO h ((foldMin ns).map .int)
    | none => match (lstOf h x).bind tupsI with
      | some nss => ofO h ((foldMinT nss).map fun ns => .tup (ns.map .int))
      | none => none
def sumD (x : D) (h : Hq) : Option (D × Hq) := match x with
  | .tup ds => (match intsOf ds with | some ns => some (.int ns.sum, h) | none => none)
  | x => match intsL h x with | some ns => some (.int ns.sum, h) | none => none
def allD (x : D) (h : Hq) : Option (D × Hq) := match (lstOf h x).bind blsOf with | some bs => some (.bl (bs.all id), h) | none => none
def tupleKD (x : D) (h : Hq) : Option (D × Hq) := match sqlOf h x with
  | some ds => (match intsOf ds with | some ns => some (.ktp ns, h) | none => none)
  | none => none
/-- plain where all are ints -/
def tupleMD (x : D) (h : Hq) : Option (D × Hq) := match sqlOf h x with
  | some ds => (match intsOf ds with | some ns => some (.ktp ns, h) | none => some (.tup ds, h))
  | none => none
def tuplePD (x : D) (h : Hq) : Option (D × Hq) := match sqlOf h x with
  | some ds => (match pairsII ds with | some ps => some (.kpp ps, h) | none => none)
  | none => none
def tupleD (x : D) (h : Hq) : Option (D × Hq) := match x with
  | .tup ds => some (.tup ds, h)
  | .ktp ds => some (.ktp ds, h)
  | x => match sqlOf h x with | some ds => some (.tup ds, h) | none => none
def listD (live : Bool) (x : D) (h : Hq) : Option (D × Hq) := match itemsOf h x with | some ds => mkL live ds h | none => none
def reprD (x : D) (h : Hq) : Option (D × Hq) := match pyOf h x with | some p => if showOk p then some (.str p.shown, h) else none | none => none
def divmodD (x y : D) (h : Hq) : Option (D × Hq) := match x, y with
  | .int i, .int j => if 0 < j ∧ j < 1073741824 then some (.tup [.int (i / j), .int (i % j)], h) else none
  | _, _ => none
def strD (x : D) (h : Hq) : Option (D × Hq) := match x with | .int i => if i.natAbs.log2 < 1920 then some (.str (toString i), h) else none | _ => none
def sortedD (live : Bool) (x : D) (h : Hq) : Option (D × Hq) := match intsL h x with
  | some ns => if ns.length < 64 then mkL live ((sortI ns).map .int) h else none
  | none => match (lstOf h x).bind tupsI with
    | some nss => if sortOk nss && decide (nss.length ≤ 1000) then mkL live ((sortT nss).map fun ns => .tup (ns.map .int)) h else none
    | none => match (lstOf h x).bind strsOf with
      | some zs => if zs.length ≤ 1000 then mkL live ((sortS zs).map .str) h else none
      | none => none
def ssD (live : Bool) (x : D) (h : Hq) : Option (D × Hq) := match x with
  | .tup ds => match intsOf ds with | some ns => if ns.length < 64 then mkL live ((sortU ns).map .int) h else none | none => none
  | _ => none
/-- the type of a thing, of four -/
def isIn (f : Bi) (d : D) : Bool := match f, d with
  | .isint, .int _ => true | .isint, .bl _ => true
  | .isbool, .bl _ => true
  | .isstr, .str _ => true
  | .istup, .tup _ => true | .istup, .ktp _ => true | .istup, .kpp _ => true
  | _, _ => false
def isN (h : Hq) (x : D) : Bool := match x with | .ref n => (match h[n]? with | some (.dctN _) => true | _ => false) | _ => false
/-- an error -/
def isX (x : D) : Bool := match x with | .exn _ _ => true | .opq _ => true | _ => false
def isQ (x : D) : Bool := match x with | .opq _ => true | _ => false
def isD (f : Bi) (x : D) (h : Hq) : Option (D × Hq) := if isQ x then some (.bl false, h) else if isN h x || isX x then none else some (.bl (isIn f x), h)
/-- the field that an error class keeps -/
def fldOf (c : String) : Str := if c = "TooMany" then "limit" else if c = "Unlevel" then "pair" else if c = "BadBook" then "error" else if c = "NoVersion" then "given" else "place"
/-- pairs of an int and a tuple of ints; the first of the least -/
def pairsN : List D → Option (List (Int × List Int))
  | [] => some []
  | .tup [.int a, .tup ds] :: r => match intsOf ds, pairsN r with | some n, some l => some ((a, n) :: l) | _, _ => none
  | _ => none
def lessN (a y : Int × List Int) : Int × List Int := if y.1 < a.1 ∨ (y.1 = a.1 ∧ HT.lexLt y.2 a.2 = true) then y else a
def foldMinN : List (Int × List Int) → Option (Int × List Int)
  | [] => none
  | a :: l => some (l.foldl lessN a)
def minND (x : D) (h : Hq) : Option (D × Hq) := match (lstOf h x).bind pairsN with
  | some l => ofO h ((foldMinN l).map fun p => .tup [.int p.1, .tup (p.2.map .int)])
  | none => none
/-- repr of a list of two, the second maybe {} -/
def showX (p : PyData) : Bool := p.showable && decide (p.depth ≤ 64) && lineOk p.shown.length
def reprLD (x y : D) (h : Hq) : Option (D × Hq) := match y with
  | .dct [] => match x with
    | .tup ds => match tupsI ds with
      | some nss => if showX (.list [.tuple (nss.map fun n => .tuple (n.map .int)), .dict []]) then some (.str (PyData.list [.tuple (nss.map fun n => .tuple (n.map .int)), .dict []]).shown, h) else none
      | none => none
    | _ => none
  | y => reprD (.lst [x, y]) h
def reprVD (x : D) (h : Hq) : Option (D × Hq) := match D.pyR x with | some p => if showX p then some (.str p.shown, h) else none | none => none
def dct1D (x y : D) (h : Hq) : Option (D × Hq) := match x, y with
  | .int i, .int j => some (.dct [.int i, .int j], h)
  | _, _ => none
/-- the error classes; whether instances of one are of another -/
def errNames : List String := ["Unfit", "BadText", "BadBook", "TooMany", "Level", "Unlevel", "Few", "TooManyEdits", "NothingToUndo", "NothingToRedo", "NoVersion", "BadLog"]
def fieldy (c : String) : Bool := ["BadBook", "TooMany", "Unlevel", "NoVersion", "BadLog"].contains c
def subX (c f : String) : Bool := c == f || (f == "FieldsError" || f == "ValueError")
/-- an error that is made -/
def mkED (c : String) (args : List D) (h : Hq) : Option (D × Hq) := match args with
  | [] => some (.exn c [], h)
  | [y] => if fieldy c then some (.exn c [y], h) else none
  | _ => none
def isED (f : String) (x : D) (h : Hq) : Option (D × Hq) := match x with
  | .exn c _ => if errNames.contains c then some (.bl (subX c f), h) else none
  | _ => none
def fldD (f : Str) (x : D) (h : Hq) : Option (D × Hq) := match x with
  | .exn c [y] => if fldOf c = f then some (y, h) else none
  | _ => none
/-- sorted by a key: what stands first in the pairs' seconds the most -/
def tupO : D → Option (List D)
  | .tup ds => some ds
  | .ktp ns => some (ns.map .int)
  | _ => none
def keyK (b : D) (i : Int) : Option Int :=
  if i < 0 then none else (tupO b).bind fun xs => (xs[i.toNat]? : Option D).bind fun k => (tupO k).bind fun ys => match (ys[1]? : Option D) with | some (.int a) => some (-a) | _ => none
def keysK (b : D) : List Int → Option (List (Int × Int))
  | [] => some []
  | i :: is => match keyK b i, keysK b is with | some k, some ks => some ((i, k) :: ks) | _, _ => none
def leK (a b : Int × Int) : Bool := decide (a.2 ≤ b.2)
def sortKD (live : Bool) (x b : D) (h : Hq) : Option (D × Hq) := match intsL h x with
  | some is => if is.length ≤ 1000 then (match keysK b is with | some ps => mkL live ((ps.mergeSort leK).map fun p => D.int p.1) h | none => none) else none
  | none => none
def biD (f : Bi) (live : Bool) (args : List D) (h : Hq) : Option (D × Hq) :=
  match f with
  | .len => un1 lenD args h
  | .int => un1 toIntD args h
  | .bool => un1 toBoolD args h
  | .abs => un1 absD args h
  | .max2 => un2 (int2 (fun _ _ => true) fun i j => if j > i then j else i) args h
  | .min2 => un2 (int2 (fun _ _ => true) fun i j => if j < i then j else i) args h
  | .max => un1 maxD args h
  | .min => un1 minD args h
  | .sum => un1 sumD args h
  | .all => un1 allD args h
  | .tuple => un1 tupleD args h
  | .tupleK => un1 tupleKD args h
  | .tupleP => un1 tuplePD args h
  | .list => un1 (listD live) args h
  | .repr => un1 reprD args h
  | .divmod => un2 divmodD args h
  | .str => un1 strD args h
  | .sorted => un1 (sortedD live) args h
  | .ss => un1 (ssD live) args h
  | .sortK => un2 (sortKD live) args h
  | .isint => un1 (isD .isint) args h
  | .isbool => un1 (isD .isbool) args h
  | .isstr => un1 (isD .isstr) args h
  | .istup => un1 (isD .istup) args h
  | .xfld f => un1 (fldD f) args h
  | .reprL => un2 reprLD args h
  | .minN => un1 minND args h
  | .tupleM => un1 tupleMD args h
  | .reprV => un1 reprVD args h
  | .dct1 => un2 dct1D args h
  | .mkE c => mkED c args h
  | .isE f => un1 (isED f) args h
  | .opq0 => (match args with | [] => some (.opq 0, h) | _ => none)
  | _ => none

inductive Kd where | lst | dct | tup | str | ktp
  deriving DecidableEq, Inhabited
def kdOf (h : Hq) : D → Option Kd
  | .ref n => match h[n]? with | some (.lst _) => some .lst | some (.dct _) => some .dct | _ => none
  | .tup _ => some .tup
  | .ktp _ => some .ktp
  | .str _ => some .str
  | _ => none
def meFits : Me → Kd → Bool
  | .append, .lst => true | .extend, .lst => true | .pop, .lst => true | .insert, .lst => true | .popAt, .lst => true | .popKey, .dct => true
  | .get2, .dct => true | .setdefault, .dct => true | .count, .ktp => true
  | .join, .str => true | .split, .str => true | _, _ => false
def meKind (m : Me) (x : D) (h : Hq) : Option Kd := match kdOf h x with
  | some k => if meFits m k then some k else none
  | none => none
def appendD (x : D) (args : List D) (h : Hq) : Option (D × Hq) := match x, args with
  | .ref n, [v] => match h[n]? with
    | some (.lst ds) => if ds.length < 16777216 then some (.non, hset h n (.lst (ds ++ [v]))) else none
    | _ => none
  | _, _ => none
def popD (x : D) (args : List D) (h : Hq) : Option (D × Hq) := match x, args with
  | .ref n, [] => match h[n]? with
    | some (.lst ds) => match ds[ds.length - 1]? with | some y => some (y, hset h n (.lst ds.dropLast)) | none => none
    | _ => none
  | _, _ => none
def popAtD (x : D) (args : List D) (h : Hq) : Option (D × Hq) := match x, args with
  | .ref n, [.int i] => match h[n]? with
    | some (.lst ds) => match L2.ixN ds.length i with
      | some j => match ds[j]? with | some y => if ds.length ≤ 16777216 then some (y, hset h n (.lst (ds.eraseIdx j))) else none | none => none
      | none => none
    | _ => none
  | _, _ => none
def popKeyD (x : D) (args : List D) (h : Hq) : Option (D × Hq) := match x, args with
  | .ref n, [k] => match h[n]? with
    | some (.dct kvs) => match keyOf k with
      | some k => match kget kvs k with | some v => some (v, hset h n (.dct (kdrop kvs k))) | none => none
      | none => none
    | _ => none
  | _, _ => none
def extendD (x : D) (args : List D) (h : Hq) : Option (D × Hq) := match x, args with
  | .ref n, [y] => match h[n]?, lstOf h y with
    | some (.lst ds), some es => if lineOk (ds.length + es.length) then some (.non, hset h n (.lst (ds ++ es))) else none
    | _, _ => none
  | _, _ => none
def get2D (x : D) (args : List D) (h : Hq) : Option (D × Hq) := match x, args with
  | .ref n, [k, d] => match h[n]? with
    | some (.dct kvs) => match keyOf k with | some k => some ((kget kvs k).getD d, h) | none => none
    | _ => none
  | _, _ => none
def insertD (x : D) (args : List D) (h : Hq) : Option (D × Hq) := match x, args with
  | .ref n, [.int i, y] => match h[n]? with
    | some (.lst ds) => if ds.length < 16777216 ∧ 0 ≤ i ∧ i < 2 ^ 63 then some (.non, hset h n (.lst (ds.take i.toNat ++ [y] ++ ds.drop i.toNat))) else none
    | _ => none
  | _, _ => none
def countD (x : D) (args : List D) (h : Hq) : Option (D × Hq) := match x, args with
  | .ktp ns, [.int i] => some (.int ((ns.countP fun n => n == i : Nat) : Int), h)
  | _, _ => none
def joinD (x : D) (args : List D) (h : Hq) : Option (D × Hq) := match x, args with
  | .str a, [y] => match (itemsOf h y).bind strsOf with
    | some ys => if (ys.map (·.length)).sum + ys.length * a.length ≤ 16777216 then some (.str (Txt.join a ys), h) else none
    | none => none
  | _, _ => none
def splitD (x : D) (args : List D) (h : Hq) : Option (D × Hq) := match x, args with
  | .str a, [.str b] => if (b.length == 0) = false ∧ a.length + 2 ≤ 16777216 then mkL false ((Txt.split a b).map .str) h else none
  | _, _ => none
def meD (k : Kd) (m : Me) (x : D) (args : List D) (h : Hq) : Option (D × Hq) :=
  match k, m with
  | .lst, .append => appendD x args h
  | .lst, .pop => popD x args h
  | .lst, .popAt => popAtD x args h
  | .dct, .popKey => popKeyD x args h
  | .lst, .extend => extendD x args h
  | .lst, .insert => insertD x args h
  | .dct, .get2 => get2D x args h
  | .ktp, .count => countD x args h
  | .str, .join => joinD x args h
  | .str, .split => splitD x args h
  | _, _ => none

/-! dicts with nested keys -/
def getND (x k d : D) (h : Hq) : Option (D × Hq) := match x with
  | .ref n => match h[n]? with
    | some (.dctN kvs) => match keyN k with | some q => some ((nget kvs q).getD d, h) | none => none
    | _ => none
  | _ => none
def setND (x k v : D) (h : Hq) : Option Hq := match x with
  | .ref n => match h[n]? with
    | some (.dctN kvs) => match keyN k with | some q => if kvs.length < 16777216 then some (hset h n (.dctN (nput kvs k q v))) else none | none => none
    | _ => none
  | _ => none
/-- dict(x).get(k, d): the pairs; what is got -/
def ppOf : D → Option (List (Key × D))
  | .kpp ps => some (ps.map fun p => ((Sum.inl p.1 : Key), D.int p.2))
  | .lst ds => pairs2 ds
  | _ => none
def dgetD (kvs : List (Key × D)) (k d : D) (h : Hq) : Option (D × Hq) := match keyOf k with
  | some q => some ((kget (kvs.foldl (fun acc kv => kput acc kv.1 kv.2) []) q).getD d, h)
  | none => none
def dispND (n : Nat) (k v : D) (h : Hq) : Option (D × Hq) := match h[n]? with
  | some (.dctN []) => match keyN k with | some _ => some (.ref n, hset h n (.dctN [(k, v)])) | none => none
  | _ => none
def keysN (h : Hq) (x : D) : Option (List D) := match x with
  | .ref n => match h[n]? with | some (.dctN kvs) => some (kvs.map (·.1)) | _ => none
  | _ => none
def sndOf : D → Option D
  | .tup [_, y] => some y
  | _ => none
def sndsOf : List D → Option (List D)
  | [] => some []
  | d :: ds => match sndOf d, sndsOf ds with | some a, some b => some (a :: b) | _, _ => none
def listND (live : Bool) (x : D) (h : Hq) : Option (D × Hq) := match keysN h x with | some ds => mkL live ds h | none => none
def sndND (live : Bool) (x : D) (h : Hq) : Option (D × Hq) := match (keysN h x).bind sndsOf with | some ds => mkL live ds h | none => none

/-! ### targets, what is walked -/
mutual
def asg : Tg → D → Env' → Option Env'
  | .name i, d, s => if i < s.length then some (s.set i (some d)) else none
  | .tup ts, d, s => match d with | .tup ds => asgs ts ds s | _ => none
def asgs : Tgs → List D → Env' → Option Env'
  | .nil, [], s => some s
  | .cons t ts, d :: ds, s => match asg t d s with | some s' => asgs ts ds s' | none => none
  | _, _, _ => none
end
abbrev Watch := List (Nat × List D)
def stands (h : Hq) (w : Watch) : Bool := w.all fun p => match h[p.1]? with | some (.lst ds) => D.beqs ds p.2 | _ => false
def wipe' (s : Env') : List Nat → Env'
  | [] => s
  | v :: vs => (wipe' s vs).set v none

abbrev Its' := List D × Watch × Hq
def itD (x : D) (h : Hq) : Option Its' := match x with
  | .ref n => match h[n]? with | some (.lst ds) => some (ds, [(n, ds)], h) | _ => none
  | .str z => some (z.cps.toList.map fun c => .str ⟨#[c]⟩, [], h)
  | x => match itemsOf h x with | some ds => some (ds, [], h) | none => none
def rng1D (x : D) (h : Hq) : Option Its' := match x with
  | .int j => if -(2 ^ 62) ≤ j ∧ j < 2 ^ 62 then some (rangeL 0 j, [], h) else none
  | _ => none
def rng2D (x y : D) (h : Hq) : Option Its' := match x, y with
  | .int i, .int j => if -(2 ^ 62) ≤ i ∧ i < 2 ^ 62 ∧ -(2 ^ 62) ≤ j ∧ j < 2 ^ 62 then some (rangeL i j, [], h) else none
  | _, _ => none
def enumL (xs : List D) : List D := xs.zipIdx.map fun p => .tup [.int (p.2 : Nat), p.1]
def isStrD : D → Bool
  | .str _ => true
  | _ => false
/-- enumerate of a list or a tuple -/
def enD (x : D) (h : Hq) : Option Its' := if isStrD x then none else (itD x h).map fun p => (enumL p.1, p.2.1, p.2.2)
def watchOf (x : D) (xs : List D) : Watch := match x with | .ref n => [(n, xs)] | _ => []
def zipD (x y : D) (h : Hq) : Option Its' := match itemsOf h x, itemsOf h y with
  | some xs, some ys => some ((xs.zip ys).map fun p => .tup [p.1, p.2], watchOf x xs ++ watchOf y ys, h)
  | _, _ => none
/-- a comprehension's turns -/
def turns (w : Watch) (step : D → Hq → R (Option D × Hq)) : List D → List D → Hq → R (List D × Hq)
  | [], acc, h => if stands h w then .ok (acc, h) else .stuck
  | x :: xs, acc, h => if stands h w then (step x h).bind fun r => if lineOk (acc.length + 1) then turns w step xs (match r.1 with | some y => acc ++ [y] | none => acc) r.2 else .stuck else .stuck

/-- how a block ends -/
inductive Fl where
  | nx (s : Env') (h : Hq) | rt (d : D) (h : Hq) | bk (s : Env') (h : Hq) | ct (s : Env') (h : Hq)
  deriving Inhabited
def loopF (w : Watch) (step : D → Env' → Hq → R Fl) : List D → Env' → Hq → R Fl
  | [], s, h => if stands h w then .ok (.nx s h) else .stuck
  | x :: xs, s, h => if stands h w then (step x s h).bind (fun
    | .nx s h => loopF w step xs s h
    | .ct s h => loopF w step xs s h
    | .bk s h => .ok (.nx s h)
    | .rt d h => .ok (.rt d h)) else .stuck
def loopW (test : Env' → Hq → R (Bool × Hq)) (step : Env' → Hq → R Fl) : Nat → Env' → Hq → R Fl
  | 0, _, _ => .stuck
  | n + 1, s, h => (test s h).bind fun (b, h) => if b then (step s h).bind (fun
    | .nx s h => loopW test step n s h
    | .ct s h => loopW test step n s h
    | .bk s h => .ok (.nx s h)
    | .rt d h => .ok (.rt d h)) else .ok (.nx s h)

abbrev Fn := Nat → List D → Hq → R (D × Hq)

def testOf (r : R (D × Hq)) : R (Bool × Hq) := r.bind fun (x, h) => match truth h x with | some b => .ok (b, h) | none => .stuck

mutual
def ev (φ : Fn) : Ex → Env' → Hq → R (D × Hq)
  | .var i, s, h => match s[i]? with | some (some d) => .ok (d, h) | _ => .stuck
  | .const d, _, h => .ok (d, h)
  | .glob _ d, _, h => .ok (d, h)
  | .bin op live a b, s, h => (ev φ a s h).bind fun (x, h) => (ev φ b s h).bind fun (y, h) => lift (binop op live x y h)
  | .neg a, s, h => (ev φ a s h).bind fun (x, h) => lift (negD x h)
  | .notV a, s, h => (testOf (ev φ a s h)).bind fun (b, h) => .ok (.bl (!b), h)
  | .cmp op a b, s, h => (ev φ a s h).bind fun (x, h) => (ev φ b s h).bind fun (y, h) => lift (cmpop op x y h)
  | .cmp2 op op' a b c, s, h => (ev φ a s h).bind fun (x, h) => (ev φ b s h).bind fun (y, h) => (lift (cmpop op x y h)).bind fun (z, h) =>
      match z with
      | .bl true => (ev φ c s h).bind fun (u, h) => lift (cmpop op' y u h)
      | .bl false => .ok (.bl false, h)
      | _ => .stuck
  | .andV a b, s, h => (ev φ a s h).bind fun (x, h) => match truth h x with | some true => ev φ b s h | some false => .ok (x, h) | none => .stuck
  | .orV a b, s, h => (ev φ a s h).bind fun (x, h) => match truth h x with | some false => ev φ b s h | some true => .ok (x, h) | none => .stuck
  | .ife t a b, s, h => (testOf (ev φ t s h)).bind fun (c, h) => if c then ev φ a s h else ev φ b s h
  | .tup es, s, h => (evs φ es s h).bind fun (ds, h) => lift (mkT ds h)
  | .tupK es, s, h => (evs φ es s h).bind fun (ds, h) => lift (mkK ds h)
  | .lst live es, s, h => (evs φ es s h).bind fun (ds, h) => lift (mkL live ds h)
  | .dct live es, s, h => (evs φ es s h).bind fun (ds, h) => lift (mkD live ds h)
  | .comp live tg it ifs elt own, s, h => (evIt φ it s h).bind fun (xs, w, h) =>
      (turns w (fun x h => match asg tg x (wipe' s own) with
        | some s' => hush ((evIf φ ifs s' h).bind fun (b, h) => if b then (ev φ elt s' h).bind fun (y, h) => .ok (some y, h) else .ok (none, h))
        | none => .stuck) xs [] h).bind fun (ds, h) => lift (mkL live ds h)
  | .ix a i, s, h => (ev φ a s h).bind fun (x, h) => (ev φ i s h).bind fun (y, h) => lift (ixD x y h)
  | .slice a lo hi, s, h => (ev φ a s h).bind fun (x, h) => (evO φ lo s h).bind fun (l, h) => (evO φ hi s h).bind fun (u, h) => lift (sliceD x l u h)
  | .rev a, s, h => (ev φ a s h).bind fun (x, h) => lift (revD x h)
  | .call f args, s, h => (evs φ args s h).bind fun (ds, h) => φ f ds h
  | .callK f perm args, s, h => (evs φ args s h).bind fun (ds, h) => φ f (perm.filterMap fun i => ds[i]?) h
  | .callN f args, s, h => (evs φ args s h).bind fun (ds, h) => hush (φ f ds h)
  | .callNK f perm args, s, h => (evs φ args s h).bind fun (ds, h) => hush (φ f (perm.filterMap fun i => ds[i]?) h)
  | .bi f live args, s, h => (evs φ args s h).bind fun (ds, h) => lift (biD f live ds h)
  | .me m o args, s, h => (ev φ o s h).bind fun (x, h) => match meKind m x h with
    | some k => (evs φ args s h).bind fun (ds, h) => lift (meD k m x ds h)
    | none => .stuck
  | .lrng live it, s, h => (evIt φ it s h).bind fun (xs, _, h) => lift (mkL live xs h)
  | .trng it, s, h => (evIt φ it s h).bind fun (xs, _, h) => lift (mkT xs h)
  | .dnew tk, _, h => .ok (.ref h.length, h ++ [if tk then .dctT [] else .dct []])
  | .newN, _, h => .ok (.ref h.length, h ++ [.dctN []])
  | .getN o k d, s, h => (ev φ o s h).bind fun (x, h) => if isN h x then (ev φ k s h).bind fun (k, h) => (ev φ d s h).bind fun (d, h) => lift (getND x k d h) else .stuck
  | .dget o k d, s, h => (ev φ o s h).bind fun (x, h) => match ppOf x with
    | some kvs => (ev φ k s h).bind fun (k, h) => (ev φ d s h).bind fun (d, h) => lift (dgetD kvs k d h)
    | none => .stuck
  | .dispN k v, s, h0 => (ev φ k s (h0 ++ [.dctN []])).bind fun (k, h) => (ev φ v s h).bind fun (v, h) => lift (dispND h0.length k v h)
  | .listN live o, s, h => (ev φ o s h).bind fun (x, h) => lift (listND live x h)
  | .sndN live _ b o, s, h => if b < s.length then (ev φ o s h).bind fun (x, h) => lift (sndND live x h) else .stuck
  | .star _, _, _ => .stuck
  | .mkO f es, s, h => (evs φ es s h).bind fun (xs, h) => (φ f xs h).bind fun (x, h) => if isNon x then .ok (.opq 1, h) else .stuck
def evs (φ : Fn) : Exs → Env' → Hq → R (List D × Hq)
  | .nil, _, h => .ok ([], h)
  | .cons e es, s, h => (ev φ e s h).bind fun (x, h) => (evs φ es s h).bind fun (xs, h) => .ok (x :: xs, h)
def evO (φ : Fn) : Exo → Env' → Hq → R (Option Int × Hq)
  | .no, _, h => .ok (none, h)
  | .yes e, s, h => (ev φ e s h).bind fun (x, h) => match x with | .int i => .ok (some i, h) | _ => .stuck
def evIf (φ : Fn) : Exs → Env' → Hq → R (Bool × Hq)
  | .nil, _, h => .ok (true, h)
  | .cons e .nil, s, h => testOf (ev φ e s h)
  | .cons _ (.cons _ _), _, _ => .stuck
def evIt (φ : Fn) : It → Env' → Hq → R (List D × Watch × Hq)
  | .ex e, s, h => (ev φ e s h).bind fun (x, h) => lift (itD x h)
  | .range1 a, s, h => (ev φ a s h).bind fun (x, h) => lift (rng1D x h)
  | .range2 a b, s, h => (ev φ a s h).bind fun (x, h) => (ev φ b s h).bind fun (y, h) => lift (rng2D x y h)
  | .enum (.ex e), s, h => (ev φ e s h).bind fun (x, h) => lift (enD x h)
  | .enum _, _, _ => .stuck
  | .zip a b, s, h => (ev φ a s h).bind fun (x, h) => (ev φ b s h).bind fun (y, h) => lift (zipD x y h)
end

/-- what a try makes of its body's end -/
def catchR (hs : List Hand) : R Fl → R Fl
  | .exc (.exn c ds) h => match hs.find? (fun t => t.cls == c) with
    | some t => if t.fld == ds.isEmpty then .stuck else (lift (mkL false (.str t.tag :: (if t.fld then ds.take 1 else []) ++ [.bl true]) h)).bind fun (x, h) => .ok (.rt x h)
    | none => .exc (.exn c ds) h
  | r => r
/-- what a try makes of its body's end that gives the error itself back -/
def catchE (c : String) : R Fl → R Fl
  | .exc (.exn c' ds) h => if c' == c then .ok (.rt (.exn c' ds) h) else .exc (.exn c' ds) h
  | r => r
/-- a name goes -/
def goneF (i : Nat) : Fl → Fl
  | .nx s h => .nx (s.set i none) h
  | .bk s h => .bk (s.set i none) h
  | .ct s h => .ct (s.set i none) h
  | f => f
def gone (i : Nat) : R Fl → R Fl
  | .ok f => .ok (goneF i f)
  | .exc _ _ => .stuck
  | .stuck => .stuck
/-- fuel of a while -/
def fuel : Nat := 4294967296
mutual
def exS (φ : Fn) : Sm → Env' → Hq → R Fl
  | .set tg e, s, h => (ev φ e s h).bind fun (x, h) => match asg tg x s with | some s' => .ok (.nx s' h) | none => .stuck
  | .par is es, s, h => (evs φ es s h).bind fun (ds, h) => if is.length = ds.length ∧ is.all (· < s.length) then .ok (.nx ((is.zip ds).foldl (fun s p => s.set p.1 (some p.2)) s) h) else .stuck
  | .setIx o i e, s, h => (ev φ e s h).bind fun (v, h) => (hush (ev φ o s h)).bind fun (x, h) => (hush (ev φ i s h)).bind fun (k, h) => (lift (setD x k v h)).bind fun h => .ok (.nx s h)
  | .setN o i e, s, h => (ev φ e s h).bind fun (v, h) => (hush (ev φ o s h)).bind fun (x, h) => (hush (ev φ i s h)).bind fun (k, h) => (lift (setND x k v h)).bind fun h => .ok (.nx s h)
  | .expr e, s, h => (ev φ e s h).bind fun (_, h) => .ok (.nx s h)
  | .ret e, s, h => (ev φ e s h).bind fun (x, h) => .ok (.rt x h)
  | .retN, _, h => .ok (.rt .non h)
  | .ite t a b, s, h => (testOf (ev φ t s h)).bind fun (c, h) => if c then exB φ a s h else exB φ b s h
  | .for tg it body, s, h => (evIt φ it s h).bind fun (xs, w, h) => loopF w (fun x s h => match asg tg x s with | some s' => exB φ body s' h | none => .stuck) xs s h
  | .while t body, s, h => loopW (fun s h => testOf (ev φ t s h)) (fun s h => exB φ body s h) fuel s h
  | .brk, s, h => .ok (.bk s h)
  | .cont, s, h => .ok (.ct s h)
  | .pass, s, h => .ok (.nx s h)
  | .never, _, _ => .stuck
  | .raise c es, s, h => (evs φ es s h).bind fun (ds, h) => .exc (.exn c ds) h
  | .tryR body hs, s, h => catchR hs (exB φ body s h)
  | .tryE body c, s, h => catchE c (exB φ body s h)
  | .tryG body cs hs, s, h => match exB φ body s h with
    | .exc (.exn c ds) h => if cs.contains c && (ds.isEmpty || fieldy c) then exH φ hs c ds s.length h else .stuck
    | .exc _ _ => .stuck
    | r => r
def exB (φ : Fn) : Sms → Env' → Hq → R Fl
  | .nil, s, h => .ok (.nx s h)
  | .cons a r, s, h => (exS φ a s h).bind fun
    | .nx s h => exB φ r s h
    | f => .ok f
/-- the clauses one by one; of the names none is known -/
def exH (φ : Fn) : Hds → String → List D → Nat → Hq → R Fl
  | .nil, _, _, _, _ => .stuck
  | .cons f i b r, c, ds, n, h => if subX c f then (match i with
      | none => exB φ b (List.replicate n none) h
      | some i => gone i (exB φ b ((List.replicate n none).set i (some (.exn c ds))) h))
    else exH φ r c ds n h
end

/-! ### defs -/
inductive Mode where | pure | trim | live
  deriving DecidableEq, Inhabited
structure Def where
  mode : Mode
  nps : Nat
  names : List Str
  body : Sms

def endOf : Fl → R (D × Hq)
  | .nx _ h => .ok (.non, h)
  | .rt d h => .ok (d, h)
  | _ => .stuck
mutual
/-- cells from n on are in nothing below -/
def D.under (n : Nat) : D → Bool
  | .ref k => decide (k < n)
  | .tup ds => D.unders n ds
  | .lst ds => D.unders n ds
  | .dct ds => D.unders n ds
  | .exn _ ds => D.unders n ds
  | _ => true
def D.unders (n : Nat) : List D → Bool
  | [] => true
  | d :: ds => D.under n d && D.unders n ds
end

def Ob.under (n : Nat) : Ob → Bool
  | .lst ds => D.unders n ds
  | .dct kvs => kvs.all fun p => p.2.under n
  | .dctT kvs => kvs.all fun p => p.2.under n
  | .dctN kvs => kvs.all fun p => p.1.under n && p.2.under n
  | .ins _ fs => fs.all fun p => p.2.under n
  | .dead => true
mutual
/-- melting only what is from n on -/
def D.thaw (n : Nat) (g : List D → Option (List D)) (h : Hq) : D → Option D
  | .ref k => if k < n then some (.ref k) else match h[k]? with
    | some (.lst ds) => (g ds).map .lst
    | _ => none
  | .tup ds => (D.thaws n g h ds).map .tup
  | .lst ds => (D.thaws n g h ds).map .lst
  | .dct ds => (D.thaws n g h ds).map .dct
  | .exn c ds => (D.thaws n g h ds).map (.exn c)
  | d => some d
def D.thaws (n : Nat) (g : List D → Option (List D)) (h : Hq) : List D → Option (List D)
  | [] => some []
  | d :: ds => match D.thaw n g h d, D.thaws n g h ds with | some a, some b => some (a :: b) | _, _ => none
end
def thawN (n : Nat) (h : Hq) : Nat → List D → Option (List D)
  | 0, ds => if D.unders n ds then some ds else none
  | k + 1, ds => D.thaws n (thawN n h k) h ds
def thaw1 (n : Nat) (h : Hq) (d : D) : Option D := match thawN n h 3 [d] with | some [x] => some x | _ => none

/-- what leaves a def that changes nothing of its caller's -/
def onExc (h : Hq) : R (D × Hq) → R (D × Hq)
  | .exc e _ => if e.pure then .exc e h else .stuck
  | r => r
def runDef (φ : Fn) (d : Def) (args : List D) (h : Hq) : R (D × Hq) :=
  if args.length ≠ d.nps then .stuck else
  let s : Env' := args.map some ++ List.replicate (d.names.length - d.nps) none
  match d.mode with
  | .live => (exB φ d.body s h).bind endOf
  | .trim => ((exB φ d.body s h).bind endOf).bind fun (x, h') => match thaw1 h.length h' x with
    | some y => if (h'.take h.length).all (Ob.under h.length) then .ok (y, h'.take h.length) else .stuck
    | none => .stuck
  | .pure => if D.pures args then onExc h (((exB φ d.body s []).bind endOf).bind fun (x, h') => match thaw1 0 h' x with
    | some y => .ok (y, h)
    | none => .stuck) else .stuck

/-- the defs of a text, by their names -/
def run (tbl : List (Nat × Def)) : Nat → Fn
  | 0, _, _, _ => .stuck
  | n + 1, f, args, h => match tbl.lookup f with
    | some d => runDef (run tbl n) d args h
    | none => .stuck
end FF

/-! FFRel: data and cells beside the layer's values and heaps. -/
namespace FF
open PySem PySem.Spec PyProof.Rows L2

section
variable (K : PySem.W.Frag) (Fr ρ : List Addr) (H : Hp)
/-- an object that stays -/
def Kept (a : Addr) (o : HO) : Prop := Rd H a o ∧ a ∉ ρ
def KTup (a : Addr) (xs : List V) : Prop :=
  ∃ (o : Obj) (its : Array Value) (n : Nat), K.lookup a = some o ∧ o.cls = .type "tuple" ∧ o.data = .seq its n ∧ its.size ≤ sizeLine ∧ Vals xs its.toList
/-- a tuple that is known to be plain -/
def FTup (a : Addr) (xs : List V) : Prop := (∃ o : Obj, H a = some (.frz o (.tup xs)) ∧ o.dict = none) ∧ a ∉ ρ
/-- .. or stays in the module -/
def PTup (a : Addr) (xs : List V) : Prop := FTup ρ H a xs ∨ (KTup K a xs ∧ ∃ o : Obj, K.lookup a = some o ∧ o.cls = .type "tuple" ∧ o.dict = none)
def KLst (a : Addr) (xs : List V) : Prop :=
  ∃ (o : Obj) (its : Array Value) (n : Nat), K.lookup a = some o ∧ o.cls = .type "list" ∧ o.dict = none ∧ o.data = .seq its n ∧ its.size ≤ sizeLine ∧ Vals xs its.toList
/-- a tuple of pairs of ints, known to be plain -/
def PPair (a : Addr) (ps : List (Int × Int)) : Prop := ∃ (o : Obj) (qs : List Addr), H a = some (.frz o (.tup (qs.map V.ref))) ∧ o.dict = none ∧ a ∉ ρ ∧ Paired (fun q (p : Int × Int) => H q = some (.tup [V.int p.1, V.int p.2]) ∧ q ∉ ρ) qs ps
/-- the class that bears a name -/
def NameK (c : String) (C : Addr) : Prop := ∃ o cd, K.lookup C = some o ∧ o.data = .cls cd ∧ cd.name = c
/-- an error that was caught and is kept: the object, its dict -/
def ErrAt (c : String) (v : V) (vs : List V) : Prop := ∃ a oe C d, v = .ref a ∧ H a = some (.frz oe (.own 0)) ∧ a ∉ ρ ∧ a ∉ Fr ∧ Zc (.ref C) d oe ∧ (∃ fs, oe.data = .fields fs) ∧
  ((vs = [] ∧ d = none) ∨ ∃ dd u, vs = [u] ∧ d = some dd ∧ H dd = some (.xd [(fldOf c, u)]) ∧ dd ∉ ρ ∧ dd ∉ Fr ∧ XfC K C ∧ PySem.W.findIn K (.ref C) (fldOf c) = some none) ∧ NameK K c C
/-- an error class whose instances are no ints, bools, texts, tuples -/
structure ExcK (C : Addr) : Prop where
  e : ExcC K C
  n4 : ∀ T, T = "int" ∨ T = "bool" ∨ T = "str" ∨ T = "tuple" → PySem.W.kitOne K (.ref C) (.type T) = some false
/-- a class whose instances are none of these -/
structure InsK (C : Addr) : Prop where
  cl : Cls K C
  ha : PySem.W.findIn K (.ref C) "__class__" = some (some (.builtin "object.__class__"))
  hn : PySem.W.specialIn K (.builtin "object.__class__") "__get__" = some (some (.builtin "getset_descriptor.__get__"))
  ht : PySem.W.takesIn K (.builtin "object.__class__") = some true
  hm : PySem.W.mroIn K C (.type "object") = some true
  n4 : ∀ T, T = "int" ∨ T = "bool" ∨ T = "str" ∨ T = "tuple" → PySem.W.kitOne K (.ref C) (.type T) = some false
/-- an object whose parts nobody reads: an error that was made, an instance -/
def OpqAt (a : Addr) : Prop := (∃ oe C, H a = some (.frz oe (.own 0)) ∧ Zc (.ref C) none oe ∧ (∃ fs, oe.data = .fields fs) ∧ ExcK K C) ∨ ∃ C dx fs, H a = some (.ins C dx fs) ∧ InsK K C
/-- keys and values by turns -/
def flatK : List (Key × V) → List V
  | [] => []
  | (k, v) :: r => kV k :: v :: flatK r
mutual
def RD : D → V → Prop
  | .non, v => v = .non
  | .bl b, v => v = .bl b
  | .int i, v => v = .int i
  | .str s, v => v = .str s
  | .tup ds, v => ∃ a vs, v = .ref a ∧ H a = some (.tup vs) ∧ a ∉ ρ ∧ RDs ds vs
  | .lst ds, v => ∃ a vs, v = .ref a ∧ H a = some (.lst vs) ∧ a ∉ ρ ∧ a ∉ Fr ∧ RDs ds vs
  | .scr ns, v => ∃ a, v = .ref a ∧ ((Kept ρ H a (.lst (ns.map V.int)) ∧ a ∉ Fr) ∨ KLst K a (ns.map V.int))
  | .ktp ns, v => ∃ a, v = .ref a ∧ PTup K ρ H a (ns.map V.int)
  | .kpp ps, v => ∃ a, v = .ref a ∧ PPair ρ H a ps
  | .ref n, v => ∃ a, v = .ref a ∧ ρ[n]? = some a
  | .dct ds, v => ∃ a kvs, v = .ref a ∧ H a = some (.dK kvs) ∧ a ∉ ρ ∧ a ∉ Fr ∧ RDs ds (flatK kvs)
  | .exn c ds, v => ∃ vs, ErrAt K Fr ρ H c v vs ∧ RDs ds vs
  | .opq _, v => ∃ a, v = .ref a ∧ a ∉ ρ ∧ a ∉ Fr ∧ OpqAt K H a
def RDs : List D → List V → Prop
  | [], vs => vs = []
  | d :: ds, vs => ∃ v r, vs = v :: r ∧ RD d v ∧ RDs ds r
end
mutual
/-- no texts in the key: its hash is the same in all worlds -/
def bareK : NestedKey → Bool
  | .none => true
  | .num _ => true
  | .text _ => false
  | .tup ks => bareKs ks
def bareKs : List NestedKey → Bool
  | [] => true
  | k :: ks => bareK k && bareKs ks
end
/-- an entry of a dict with nested keys -/
def entN (w : World) (x : NestedKey × Addr × Value) : DictEntry := ⟨x.1.hash w, .ref x.2.1, x.2.2⟩
def PN : List (NestedKey × Addr × V) → List (NestedKey × Addr × Value) → Prop := Paired fun p q => p.1 = q.1 ∧ p.2.1 = q.2.1 ∧ RelV p.2.2 q.2.2
/-- the dict at a with the entries xs -/
def NDp (a : Addr) (xs : List (NestedKey × Addr × V)) (h : Heap) : Prop :=
  (a == sysModules) = false ∧ xs.length ≤ sizeLine ∧ ∃ ys, PN xs ys ∧ ∃ o es ep, h.get? a = some o ∧ o.ExactDict ∧ o.data = .dict es ep ∧ (∀ w, es.toList = ys.map (entN w)) ∧ (ys.map (·.1)).Nodup
def NDict (a : Addr) (xs : List (NestedKey × Addr × V)) : HO := .ext (NDp a xs)
theorem ndict_tb {a : Addr} {xs : List (NestedKey × Addr × V)} {ps : Array Value} : NDict a xs ≠ .tbl ps := fun z => by unfold NDict at z; cases z
theorem ndict_code {a : Addr} {xs : List (NestedKey × Addr × V)} {q : Str} : NDict a xs ≠ LamX.CodeO a q := fun z => by
  unfold NDict LamX.CodeO at z
  have z := congrFun (HO.ext.inj z) { objs := Array.replicate (a + 1) { cls := .none, data := .fields #[.none, .str q 0] } }
  have g : ({ objs := Array.replicate (a + 1) { cls := .none, data := .fields #[.none, .str q 0] } } : Heap).get? a = some { cls := .none, data := .fields #[.none, .str q 0] } := by
    unfold Heap.get?
    simp [Obj.isFreed]
  have y : NDp a xs { objs := Array.replicate (a + 1) { cls := .none, data := .fields #[.none, .str q 0] } } := by
    rw [z]
    exact ⟨_, _, 0, g, rfl, rfl⟩
  obtain ⟨_, _, ys, _, o, es, ep, e, _, d, _⟩ := y
  rw [g] at e
  cases e
  cases d
/-- data and what stands in the dict -/
def NR (kvs : List (D × D)) (xs : List (NestedKey × Addr × V)) : Prop :=
  kvs.map (fun p => keyN p.1) = xs.map (fun x => some x.1) ∧ RDs K Fr ρ H (kvs.map (·.1)) (xs.map fun x => V.ref x.2.1) ∧ RDs K Fr ρ H (kvs.map (·.2)) (xs.map (·.2.2))
def KR {κ : Type} (kvs : List (κ × D)) (vs : List (κ × V)) : Prop := kvs.map (·.1) = vs.map (·.1) ∧ RDs K Fr ρ H (kvs.map (·.2)) (vs.map (·.2))
def OR : Ob → Addr → Prop
  | .lst ds, a => ∃ vs, H a = some (.lst vs) ∧ RDs K Fr ρ H ds vs
  | .dct kvs, a => ∃ vs, H a = some (.dK vs) ∧ KR K Fr ρ H kvs vs
  | .dctT kvs, a => ∃ vs, H a = some (.dT vs) ∧ KR K Fr ρ H kvs vs
  | .dctN kvs, a => ∃ xs, H a = some (NDict a xs) ∧ NR K Fr ρ H kvs xs
  | _, _ => False
end
def isTb : HO → Bool
  | .tbl _ => true
  | _ => false
def isCl : HO → Bool
  | .lst _ => true
  | .dK _ => true
  | .dT _ => true
  | _ => false
/-- what may stand at a cell's address -/
def ClO (a : Addr) (u : HO) : Prop := isCl u = true ∨ ∃ xs, u = NDict a xs
/-- the defs that make lambdas -/
def lamDefs : List Str := ["floor_pieces"]
/-- the code objects of the defs that make lambdas, their tables, the lambdas' names -/
def lamTabs (K : PySem.W.Frag) : List (Addr × Addr × Str) := K.filterMap fun e => match e.2.data with
  | .fields vs => (match (vs[1]? : Option Value) with
    | some (.str n _) => if lamDefs.contains n then (match (vs[11]? : Option Value) with
      | some (.ref P) => some (e.1, P, n ++ ".<locals>." ++ "<lambda>")
      | _ => some (e.1, 0, "")) else none
    | _ => none)
  | _ => none
def LamTab (K : PySem.W.Frag) (P : Addr) (q : Str) : Prop := ∃ c, (c, P, q) ∈ lamTabs K
structure HR (K : PySem.W.Frag) (Fr ρ : List Addr) (h : Hq) (H : Hp) : Prop where
  len : ρ.length = h.length
  nd : ρ.Nodup
  fr' : ∀ a ∈ Fr, ∃ o, H a = some o ∧ isTb o = false
  tb : ∀ P q, LamTab K P q → LamX.TabS H P q
  dj : ∀ a ∈ ρ, a ∉ Fr
  at' : ∀ (n : Nat) (o : Ob), h[n]? = some o → ∃ a, ρ[n]? = some a ∧ OR K Fr ρ H o a
structure SR (K : PySem.W.Frag) (Fr ρ : List Addr) (H : Hp) (s : Env') (σ : L2.St) : Prop where
  len : s.length = σ.length
  get : ∀ (i : Nat) d, s[i]? = some (some d) → ∃ v, σ[i]? = some (some v) ∧ RD K Fr ρ H d v
/-- what comes later: more cells, what stays stays -/
structure Ext (ρ : List Addr) (H : Hp) (ρ' : List Addr) (H' : Hp) : Prop where
  more : ∃ m, ρ' = ρ ++ m ∧ ∀ a ∈ m, ∀ o, H a = some o → isTb o = true
  keep : ∀ (a : Addr) (o : HO) (_ : a ∉ ρ) (_ : H a = some o) (_ : isTb o = false := by rfl), H' a = some o

section
variable {K : PySem.W.Frag} {Fr ρ ρ' ρ2 : List Addr} {H H' H2 : Hp} {h h' : Hq} {s : Env'} {σ : L2.St}
theorem HR.fr (r : HR K Fr ρ h H) : ∀ a ∈ Fr, ∃ o, H a = some o := fun a ha => let ⟨o, e, _⟩ := r.fr' a ha; ⟨o, e⟩
theorem Ext.refl : Ext ρ H ρ H := ⟨⟨[], by simp, by simp⟩, fun _ _ _ e _ => e⟩
theorem Ext.out (x : Ext ρ H ρ' H') {a : Addr} {o : HO} (n : a ∉ ρ) (e : H a = some o) (ht : isTb o = false := by rfl) : a ∉ ρ' := by
  obtain ⟨m, rfl, hm⟩ := x.more
  intro z
  rcases List.mem_append.mp z with z | z
  · exact n z
  · have := hm a z o e; rw [ht] at this; cases this
theorem Ext.trans (x : Ext ρ H ρ' H') (y : Ext ρ' H' ρ2 H2) (hρ : ∀ a ∈ ρ, ∃ o, H' a = some o ∧ isTb o = false) : Ext ρ H ρ2 H2 := by
  refine ⟨?_, fun a o n e t => y.keep a o (x.out n e t) (x.keep a o n e t) t⟩
  obtain ⟨m, e1, hm⟩ := x.more
  obtain ⟨m2, e2, hm2⟩ := y.more
  refine ⟨m ++ m2, by rw [e2, e1, List.append_assoc], fun a ha o q => ?_⟩
  rcases List.mem_append.mp ha with z | z
  · exact hm a z o q
  · cases ht : isTb o with
    | true => rfl
    | false =>
      exfalso
      by_cases n : a ∈ ρ
      · obtain ⟨o', e, t'⟩ := hρ a n
        have := hm2 a z o' e
        rw [t'] at this; cases this
      · have := hm2 a z o (x.keep a o n q ht)
        rw [ht] at this; cases this
theorem Ext.get (x : Ext ρ H ρ' H') {n : Nat} {a : Addr} (e : ρ[n]? = some a) : ρ'[n]? = some a := by
  obtain ⟨m, rfl, _⟩ := x.more
  rw [List.getElem?_append_left (List.getElem?_eq_some_iff.mp e).1]
  exact e
theorem PTup.mono {a : Addr} {xs : List V} (x : Ext ρ H ρ' H') (k : PTup K ρ H a xs) : PTup K ρ' H' a xs :=
  k.imp (fun k => ⟨let ⟨o, e, d⟩ := k.1; ⟨o, x.keep a _ k.2 e, d⟩, let ⟨_, e, _⟩ := k.1; x.out k.2 e⟩) id
theorem PTup.sqT {a : Addr} {xs : List V} (k : PTup K ρ H a xs) : SqT K H a xs := by
  rcases k with ⟨⟨o, e, _⟩, _⟩ | ⟨k, _⟩
  · exact .inl (.inr ⟨o, e⟩)
  · exact .inr k
theorem paired_imp {α β : Type} {F G : α → β → Prop} : ∀ {xs : List α} {ys : List β}, Paired F xs ys → (∀ x y, F x y → G x y) → Paired G xs ys
  | _, _, .nil, _ => .nil
  | _, _, .cons a b, h => .cons (h _ _ a) (paired_imp b h)
theorem PPair.mono {a : Addr} {ps : List (Int × Int)} (x : Ext ρ H ρ' H') (k : PPair ρ H a ps) : PPair ρ' H' a ps := by
  obtain ⟨o, qs, e, d, n, r⟩ := k
  exact ⟨o, qs, x.keep a _ n e, d, x.out n e, paired_imp r fun q p z => ⟨x.keep q _ z.2 z.1, x.out z.2 z.1⟩⟩
theorem Kept.mono {a : Addr} {o : HO} (x : Ext ρ H ρ' H') (k : Kept ρ H a o) (ht : isTb o = false := by rfl) : Kept ρ' H' a o := by
  obtain ⟨r, n⟩ := k
  rcases r with r | ⟨ob, r⟩
  · exact ⟨.inl (x.keep a _ n r ht), x.out n r ht⟩
  · exact ⟨.inr ⟨ob, x.keep a _ n r⟩, x.out n r⟩
theorem OpqAt.go {a : Addr} (k : OpqAt K H a) (g : ∀ o, H a = some o → isTb o = false → H' a = some o) : OpqAt K H' a := by
  rcases k with ⟨oe, C, e, r⟩ | ⟨C, dx, fs, e, r⟩
  · exact .inl ⟨oe, C, g _ e rfl, r⟩
  · exact .inr ⟨C, dx, fs, g _ e rfl, r⟩
theorem OpqAt.has {a : Addr} (k : OpqAt K H a) : ∃ o, H a = some o ∧ isTb o = false := by
  rcases k with ⟨oe, C, e, r⟩ | ⟨C, dx, fs, e, r⟩
  · exact ⟨_, e, rfl⟩
  · exact ⟨_, e, rfl⟩
theorem ErrAt.go {Fr' : List Addr} {c : String} {v : V} {vs : List V} (k : ErrAt K Fr ρ H c v vs) (g : ∀ b o, b ∉ ρ → b ∉ Fr → H b = some o → isTb o = false → H' b = some o ∧ b ∉ ρ' ∧ b ∉ Fr') : ErrAt K Fr' ρ' H' c v vs := by
  obtain ⟨a, oe, C, d, e, k1, n, nf, z, f, q⟩ := k
  obtain ⟨g1, g2, g3⟩ := g a _ n nf k1 rfl
  refine ⟨a, oe, C, d, e, g1, g2, g3, z, f, q.1.imp id ?_, q.2⟩
  rintro ⟨dd, u, e1, e2, k2, m, mf, x⟩
  obtain ⟨g4, g5, g6⟩ := g dd _ m mf k2 rfl
  exact ⟨dd, u, e1, e2, g4, g5, g6, x⟩
mutual
theorem RD.mono (x : Ext ρ H ρ' H') : ∀ (d : D) (v : V), RD K Fr ρ H d v → RD K Fr ρ' H' d v
  | .non, _, r => r
  | .bl _, _, r => r
  | .int _, _, r => r
  | .str _, _, r => r
  | .tup ds, _, r => by
    unfold RD at r ⊢
    obtain ⟨a, vs, e, k, n, q⟩ := r
    exact ⟨a, vs, e, x.keep a _ n k, x.out n k, RDs.mono x ds vs q⟩
  | .lst ds, _, r => by
    unfold RD at r ⊢
    obtain ⟨a, vs, e, k, n, nf, q⟩ := r
    exact ⟨a, vs, e, x.keep a _ n k, x.out n k, nf, RDs.mono x ds vs q⟩
  | .scr ns, _, r => by
    unfold RD at r ⊢
    obtain ⟨a, e, k⟩ := r
    exact ⟨a, e, k.imp (fun k => ⟨Kept.mono x k.1, k.2⟩) id⟩
  | .ktp ns, _, r => by unfold RD at r ⊢; obtain ⟨a, e, k⟩ := r; exact ⟨a, e, k.mono x⟩
  | .kpp ps, _, r => by unfold RD at r ⊢; obtain ⟨a, e, k⟩ := r; exact ⟨a, e, k.mono x⟩
  | .ref n, _, r => by
    unfold RD at r ⊢
    obtain ⟨a, e, k⟩ := r
    exact ⟨a, e, x.get k⟩
  | .dct ds, _, r => by
    unfold RD at r ⊢
    obtain ⟨a, kvs, e, k, n, nf, q⟩ := r
    exact ⟨a, kvs, e, x.keep a _ n k, x.out n k, nf, RDs.mono x ds _ q⟩
  | .exn c ds, _, r => by
    unfold RD at r ⊢
    obtain ⟨vs, k, q⟩ := r
    exact ⟨vs, k.go fun b o n nf e t => ⟨x.keep b o n e t, x.out n e t, nf⟩, RDs.mono x ds vs q⟩
  | .opq _, _, r => by
    unfold RD at r ⊢
    obtain ⟨a, e, n, nf, k⟩ := r
    obtain ⟨o, ho, ht⟩ := k.has
    exact ⟨a, e, x.out n ho ht, nf, k.go fun o e t => x.keep a o n e t⟩
theorem RDs.mono (x : Ext ρ H ρ' H') : ∀ (ds : List D) (vs : List V), RDs K Fr ρ H ds vs → RDs K Fr ρ' H' ds vs
  | [], _, r => r
  | d :: ds, _, r => by
    unfold RDs at r ⊢
    obtain ⟨v, t, e, k, q⟩ := r
    exact ⟨v, t, e, RD.mono x d v k, RDs.mono x ds t q⟩
end
theorem KR.mono {κ : Type} {kvs : List (κ × D)} {vs : List (κ × V)} (x : Ext ρ H ρ' H') (r : KR K Fr ρ H kvs vs) : KR K Fr ρ' H' kvs vs := ⟨r.1, RDs.mono x _ _ r.2⟩
theorem NR.mono {kvs : List (D × D)} {xs : List (NestedKey × Addr × V)} (x : Ext ρ H ρ' H') (r : NR K Fr ρ H kvs xs) : NR K Fr ρ' H' kvs xs := ⟨r.1, RDs.mono x _ _ r.2.1, RDs.mono x _ _ r.2.2⟩
theorem SR.mono (x : Ext ρ H ρ' H') (r : SR K Fr ρ H s σ) : SR K Fr ρ' H' s σ :=
  ⟨r.len, fun i d e => let ⟨v, e1, q⟩ := r.get i d e; ⟨v, e1, RD.mono x d v q⟩⟩
theorem OR.tracked {o : Ob} {a : Addr} (r : OR K Fr ρ H o a) : ∃ u, H a = some u := by
  cases o with
  | lst ds => obtain ⟨vs, e, _⟩ := r; exact ⟨_, e⟩
  | dct ds => obtain ⟨vs, e, _⟩ := r; exact ⟨_, e⟩
  | dctT ds => obtain ⟨vs, e, _⟩ := r; exact ⟨_, e⟩
  | dctN ds => obtain ⟨vs, e, _⟩ := r; exact ⟨_, e⟩
  | ins _ _ => exact r.elim
  | dead => exact r.elim
theorem OR.cl {o : Ob} {a : Addr} (r : OR K Fr ρ H o a) : ∃ u, H a = some u ∧ ClO a u := by
  cases o with
  | lst ds => obtain ⟨vs, e, _⟩ := r; exact ⟨_, e, .inl rfl⟩
  | dct ds => obtain ⟨vs, e, _⟩ := r; exact ⟨_, e, .inl rfl⟩
  | dctT ds => obtain ⟨vs, e, _⟩ := r; exact ⟨_, e, .inl rfl⟩
  | dctN ds => obtain ⟨xs, e, _⟩ := r; exact ⟨_, e, .inr ⟨xs, rfl⟩⟩
  | ins _ _ => exact r.elim
  | dead => exact r.elim
theorem HR.cl (r : HR K Fr ρ h H) {a : Addr} (ha : a ∈ ρ) : ∃ u, H a = some u ∧ ClO a u := by
  obtain ⟨n, hn, e⟩ := List.getElem_of_mem ha
  have hl : n < h.length := by rw [← r.len]; exact hn
  obtain ⟨b, e1, q⟩ := r.at' n h[n] (List.getElem?_eq_getElem hl)
  rw [List.getElem?_eq_getElem hn, e] at e1
  cases e1
  exact q.cl
theorem isCl_tb {a : Addr} {u : HO} (h : ClO a u) : isTb u = false := by
  rcases h with h | ⟨xs, rfl⟩
  · cases u <;> first | rfl | cases h
  · rfl
/-- the tables stay where neither they nor the code objects are written -/
theorem tabS_set {P : Addr} {q : Str} {a : Addr} {o u : HO} (t : LamX.TabS H P q) (e : H a = some u) (hu : ClO a u) : LamX.TabS (upd H a o) P q := by
  obtain ⟨ps, h1, h2, h3⟩ := t
  refine ⟨ps, ?_, h2, fun pos cv hc => ?_⟩
  · have : P ≠ a := by
      rintro rfl
      rw [h1] at e
      rcases hu with hu | ⟨xs, hu⟩
      · cases e; cases hu
      · exact ndict_tb (hu.symm.trans (Option.some.inj e).symm)
    rw [upd_ne this]; exact h1
  · obtain ⟨c, e1, e2⟩ := h3 pos cv hc
    refine ⟨c, e1, ?_⟩
    have : c ≠ a := by
      rintro rfl
      rw [e2] at e
      rcases hu with hu | ⟨xs, hu⟩
      · unfold LamX.CodeO at e; cases e; cases hu
      · exact ndict_code (hu.symm.trans (Option.some.inj e).symm)
    rw [upd_ne this]; exact e2
theorem tabS_new {P : Addr} {q : Str} {p : Addr} {o : HO} (t : LamX.TabS H P q) (hp : H p = none) : LamX.TabS (upd H p o) P q :=
  t.ext fun b o e => by rw [upd_ne (ne_of_none e hp)]; exact e
theorem HR.tracked (r : HR K Fr ρ h H) {a : Addr} (ha : a ∈ ρ) : ∃ u, H a = some u := by
  obtain ⟨n, hn, e⟩ := List.getElem_of_mem ha
  have hl : n < h.length := by rw [← r.len]; exact hn
  obtain ⟨b, e1, q⟩ := r.at' n h[n] (List.getElem?_eq_getElem hl)
  rw [List.getElem?_eq_getElem hn, e] at e1
  cases e1
  exact q.tracked
theorem HR.fresh (r : HR K Fr ρ h H) {p : Addr} (hp : H p = none) : p ∉ ρ ∧ p ∉ Fr := by
  refine ⟨fun z => ?_, fun z => ?_⟩
  · obtain ⟨u, e⟩ := r.tracked z; rw [hp] at e; cases e
  · obtain ⟨u, e⟩ := r.fr p z; rw [hp] at e; cases e
theorem Ext.step (r : HR K Fr ρ' h' H') (x : Ext ρ H ρ' H') (y : Ext ρ' H' ρ2 H2) : Ext ρ H ρ2 H2 := x.trans y fun a ha => by
  obtain ⟨m, e, _⟩ := x.more
  obtain ⟨u, e1, c⟩ := r.cl (a := a) (by rw [e]; exact List.mem_append_left _ ha)
  exact ⟨u, e1, isCl_tb c⟩
/-- the same cells, more objects -/
theorem ext_new {p : Addr} {o : HO} (hp : H p = none) : Ext ρ H ρ (upd H p o) := by
  refine ⟨⟨[], by simp, by simp⟩, fun a u _ e _ => ?_⟩
  rw [upd_ne (ne_of_none e hp)]; exact e
theorem OR.mono {o : Ob} {a : Addr} (x : Ext ρ H ρ' H') (hk : H' a = H a) (r : OR K Fr ρ H o a) : OR K Fr ρ' H' o a := by
  cases o with
  | lst ds => obtain ⟨vs, e, q⟩ := r; exact ⟨vs, hk.trans e, RDs.mono x _ _ q⟩
  | dct ds => obtain ⟨vs, e, q⟩ := r; exact ⟨vs, hk.trans e, q.mono x⟩
  | dctT ds => obtain ⟨vs, e, q⟩ := r; exact ⟨vs, hk.trans e, q.mono x⟩
  | dctN ds => obtain ⟨vs, e, q⟩ := r; exact ⟨vs, hk.trans e, q.mono x⟩
  | ins _ _ => exact r.elim
  | dead => exact r.elim
theorem HR.new (r : HR K Fr ρ h H) {p : Addr} {o : HO} (hp : H p = none) : HR K Fr ρ h (upd H p o) := by
  refine ⟨r.len, r.nd, fun a ha => ?_, fun P q l => tabS_new (r.tb P q l) hp, r.dj, fun n u e => ?_⟩
  · obtain ⟨u, e, ht⟩ := r.fr' a ha
    exact ⟨u, by rw [upd_ne (ne_of_none e hp)]; exact e, ht⟩
  · obtain ⟨a, e1, q⟩ := r.at' n u e
    obtain ⟨u', e'⟩ := q.tracked
    exact ⟨a, e1, q.mono (ext_new hp) (upd_ne (ne_of_none e' hp))⟩
/-- a new cell -/
theorem ext_cell {p : Addr} {o : HO} (hp : H p = none) : Ext ρ H (ρ ++ [p]) (upd H p o) := by
  refine ⟨⟨[p], rfl, fun a ha o e => ?_⟩, fun a u _ e _ => ?_⟩
  · rw [List.mem_singleton] at ha; subst ha; rw [hp] at e; cases e
  · rw [upd_ne (ne_of_none e hp)]; exact e
theorem HR.cell (r : HR K Fr ρ h H) {p : Addr} {o : HO} {b : Ob} (hp : H p = none) (q : OR K Fr (ρ ++ [p]) (upd H p o) b p) : HR K Fr (ρ ++ [p]) (h ++ [b]) (upd H p o) := by
  obtain ⟨f1, f2⟩ := r.fresh hp
  refine ⟨by simp [r.len], ?_, fun a ha => ?_, fun P q l => tabS_new (r.tb P q l) hp, fun a ha => ?_, fun n u e => ?_⟩
  · rw [List.nodup_append]
    exact ⟨r.nd, by simp, fun a ha b hb => by rw [List.mem_singleton] at hb; subst hb; rintro rfl; exact f1 ha⟩
  · obtain ⟨u, e, ht⟩ := r.fr' a ha
    exact ⟨u, by rw [upd_ne (ne_of_none e hp)]; exact e, ht⟩
  · rcases List.mem_append.mp ha with z | z
    · exact r.dj a z
    · rw [List.mem_singleton] at z; subst z; exact f2
  · by_cases hn : n < h.length
    · rw [List.getElem?_append_left hn] at e
      obtain ⟨a, e1, q1⟩ := r.at' n u e
      obtain ⟨u', e'⟩ := q1.tracked
      exact ⟨a, (ext_cell (o := o) hp).get e1, q1.mono (ext_cell hp) (upd_ne (ne_of_none e' hp))⟩
    · have hn' : n = h.length := by
        have := (List.getElem?_eq_some_iff.mp e).1
        simp at this; omega
      subst hn'
      rw [List.getElem?_append_right (Nat.le_refl _)] at e
      simp at e; subst e
      refine ⟨p, ?_, q⟩
      rw [← r.len, List.getElem?_append_right (Nat.le_refl _)]; simp
/-- a cell written -/
theorem ext_set (r : HR K Fr ρ h H) {n : Nat} {a : Addr} {o : HO} (e : ρ[n]? = some a) : Ext ρ H ρ (upd H a o) := by
  refine ⟨⟨[], by simp, by simp⟩, fun b u nb q _ => ?_⟩
  have : b ≠ a := by rintro rfl; exact nb (List.mem_of_getElem? e)
  rw [upd_ne this]; exact q
theorem HR.set (r : HR K Fr ρ h H) {n : Nat} {a : Addr} {o : HO} {b : Ob} (e : ρ[n]? = some a) (q : OR K Fr ρ (upd H a o) b a) : HR K Fr ρ (h.set n b) (upd H a o) := by
  obtain ⟨u0, e0, hu0⟩ := r.cl (List.mem_of_getElem? e)
  refine ⟨by simp [r.len], r.nd, fun c hc => ?_, fun P q l => tabS_set (r.tb P q l) e0 hu0, r.dj, fun m u e2 => ?_⟩
  · obtain ⟨u, q, ht⟩ := r.fr' c hc
    have : c ≠ a := by rintro rfl; exact r.dj c (List.mem_of_getElem? e) hc
    exact ⟨u, by rw [upd_ne this]; exact q, ht⟩
  · by_cases hm : n = m
    · subst hm
      have hl : n < h.length := by rw [← r.len]; exact (List.getElem?_eq_some_iff.mp e).1
      rw [List.getElem?_set_self hl] at e2
      cases e2
      exact ⟨a, e, q⟩
    · rw [List.getElem?_set_ne hm] at e2
      obtain ⟨c, e1, q1⟩ := r.at' m u e2
      have : c ≠ a := by
        rintro rfl
        exact hm ((List.getElem_inj r.nd).mp ((List.getElem?_eq_some_iff.mp e).2.trans (List.getElem?_eq_some_iff.mp e1).2.symm))
      exact ⟨c, e1, q1.mono (ext_set r e) (upd_ne this)⟩

/-! ### what data is read as -/
theorem RDs.length : ∀ {ds : List D} {vs : List V}, RDs K Fr ρ H ds vs → ds.length = vs.length
  | [], vs, r => by unfold RDs at r; subst r; rfl
  | d :: ds, vs, r => by
    unfold RDs at r
    obtain ⟨v, t, rfl, _, q⟩ := r
    simp [RDs.length q]
theorem RDs.get : ∀ {ds : List D} {vs : List V} {i : Nat} {d : D}, RDs K Fr ρ H ds vs → ds[i]? = some d → ∃ v, vs[i]? = some v ∧ RD K Fr ρ H d v
  | [], _, _, _, _, e => by simp at e
  | d :: ds, vs, 0, x, r, e => by
    unfold RDs at r
    obtain ⟨v, t, rfl, k, _⟩ := r
    simp at e; subst e
    exact ⟨v, rfl, k⟩
  | d :: ds, vs, i + 1, x, r, e => by
    unfold RDs at r
    obtain ⟨v, t, rfl, _, q⟩ := r
    obtain ⟨w, e1, k⟩ := RDs.get (i := i) q (by simpa using e)
    exact ⟨w, by simpa using e1, k⟩
theorem RDs.nil : RDs K Fr ρ H [] [] := by unfold RDs; rfl
theorem RDs.cons {d : D} {v : V} {ds : List D} {vs : List V} (a : RD K Fr ρ H d v) (b : RDs K Fr ρ H ds vs) : RDs K Fr ρ H (d :: ds) (v :: vs) := by unfold RDs; exact ⟨v, vs, rfl, a, b⟩
theorem RDs.append : ∀ {ds es : List D} {vs ws : List V}, RDs K Fr ρ H ds vs → RDs K Fr ρ H es ws → RDs K Fr ρ H (ds ++ es) (vs ++ ws)
  | [], _, _, _, a, b => by unfold RDs at a; subst a; exact b
  | d :: ds, es, vs, ws, a, b => by
    unfold RDs at a
    obtain ⟨v, t, rfl, k, q⟩ := a
    exact .cons k (RDs.append q b)
theorem RDs.take : ∀ (n : Nat) {ds : List D} {vs : List V}, RDs K Fr ρ H ds vs → RDs K Fr ρ H (ds.take n) (vs.take n)
  | 0, _, _, _ => by simp; exact RDs.nil
  | n + 1, [], _, r => by unfold RDs at r; subst r; exact RDs.nil
  | n + 1, d :: ds, vs, r => by
    unfold RDs at r
    obtain ⟨v, t, rfl, k, q⟩ := r
    exact .cons k (RDs.take n q)
theorem RDs.drop : ∀ (n : Nat) {ds : List D} {vs : List V}, RDs K Fr ρ H ds vs → RDs K Fr ρ H (ds.drop n) (vs.drop n)
  | 0, _, _, r => by simpa using r
  | n + 1, [], _, r => by unfold RDs at r; subst r; exact RDs.nil
  | n + 1, d :: ds, vs, r => by
    unfold RDs at r
    obtain ⟨v, t, rfl, k, q⟩ := r
    simpa using RDs.drop n q
theorem RDs.set : ∀ (n : Nat) {ds : List D} {vs : List V} {d : D} {v : V}, RD K Fr ρ H d v → RDs K Fr ρ H ds vs → RDs K Fr ρ H (ds.set n d) (vs.set n v)
  | _, [], _, _, _, _, r => by unfold RDs at r; subst r; exact RDs.nil
  | 0, d :: ds, vs, _, _, k', r => by
    unfold RDs at r
    obtain ⟨v, t, rfl, k, q⟩ := r
    exact .cons k' q
  | n + 1, d :: ds, vs, _, _, k', r => by
    unfold RDs at r
    obtain ⟨v, t, rfl, k, q⟩ := r
    exact .cons k (RDs.set n k' q)
theorem RDs.eraseIdx : ∀ (n : Nat) {ds : List D} {vs : List V}, RDs K Fr ρ H ds vs → RDs K Fr ρ H (ds.eraseIdx n) (vs.eraseIdx n)
  | _, [], _, r => by unfold RDs at r; subst r; exact RDs.nil
  | 0, d :: ds, vs, r => by
    unfold RDs at r
    obtain ⟨v, t, rfl, k, q⟩ := r
    exact q
  | n + 1, d :: ds, vs, r => by
    unfold RDs at r
    obtain ⟨v, t, rfl, k, q⟩ := r
    exact .cons k (RDs.eraseIdx n q)
theorem RDs.reverse {ds : List D} {vs : List V} (r : RDs K Fr ρ H ds vs) : RDs K Fr ρ H ds.reverse vs.reverse := by
  induction ds generalizing vs with
  | nil => unfold RDs at r; subst r; exact RDs.nil
  | cons d ds ih =>
    unfold RDs at r
    obtain ⟨v, t, rfl, k, q⟩ := r
    rw [List.reverse_cons, List.reverse_cons]
    exact (ih q).append (.cons k .nil)
theorem RDs.dropLast {ds : List D} {vs : List V} (r : RDs K Fr ρ H ds vs) : RDs K Fr ρ H ds.dropLast vs.dropLast := by
  rw [List.dropLast_eq_take, List.dropLast_eq_take, ← r.length]; exact r.take _
theorem RDs.rep {ds : List D} {vs : List V} (r : RDs K Fr ρ H ds vs) : ∀ k : Nat, RDs K Fr ρ H (List.replicate k ds).flatten (List.replicate k vs).flatten
  | 0 => RDs.nil
  | k + 1 => by rw [List.replicate_succ, List.replicate_succ, List.flatten_cons, List.flatten_cons]; exact r.append (RDs.rep r k)
theorem RDs.ints : ∀ {ds : List D} {vs : List V} {ns : List Int}, intsOf ds = some ns → RDs K Fr ρ H ds vs → vs = ns.map V.int
  | [], vs, ns, e, r => by unfold RDs at r; cases e; exact r
  | d :: ds, vs, ns, e, r => by
    unfold RDs at r
    obtain ⟨v, t, rfl, k, q⟩ := r
    cases d with
    | int i =>
      unfold intsOf at e
      cases q2 : intsOf ds with
      | none => rw [q2] at e; cases e
      | some ms =>
        rw [q2] at e; cases e
        unfold RD at k
        rw [k, RDs.ints q2 q]; rfl
    | _ => unfold intsOf at e; cases e
theorem RDs.of_ints : ∀ (ns : List Int), RDs K Fr ρ H (ns.map D.int) (ns.map V.int)
  | [] => RDs.nil
  | n :: ns => RDs.cons (by unfold RD; rfl) (RDs.of_ints ns)
/-- a tuple, a list, a cell's list, the script: read -/
theorem RD.tupl {ds : List D} {v : V} (r : RD K Fr ρ H (.tup ds) v) : ∃ a vs, v = .ref a ∧ H a = some (.tup vs) ∧ RDs K Fr ρ H ds vs := by
  unfold RD at r
  obtain ⟨a, vs, e, k, _, q⟩ := r
  exact ⟨a, vs, e, k, q⟩
theorem RD.sqT {ds : List D} {v : V} (r : RD K Fr ρ H (.tup ds) v) : ∃ a vs, v = .ref a ∧ SqT K H a vs ∧ RDs K Fr ρ H ds vs := by
  obtain ⟨a, vs, e, k, q⟩ := r.tupl
  exact ⟨a, vs, e, .of k, q⟩
theorem RD.sqL {ds : List D} {v : V} (r : RD K Fr ρ H (.lst ds) v) : ∃ a vs, v = .ref a ∧ H a = some (.lst vs) ∧ RDs K Fr ρ H ds vs := by
  unfold RD at r
  obtain ⟨a, vs, e, k, _, _, q⟩ := r
  exact ⟨a, vs, e, k, q⟩
theorem HR.lst (r : HR K Fr ρ h H) {n : Nat} {ds : List D} {v : V} (k : RD K Fr ρ H (.ref n) v) (e : h[n]? = some (.lst ds)) : ∃ a vs, v = .ref a ∧ ρ[n]? = some a ∧ H a = some (.lst vs) ∧ RDs K Fr ρ H ds vs := by
  unfold RD at k
  obtain ⟨a, e1, e2⟩ := k
  obtain ⟨b, e3, vs, e4, q⟩ := r.at' n _ e
  rw [e2] at e3; cases e3
  exact ⟨a, vs, e1, e2, e4, q⟩
theorem HR.dct (r : HR K Fr ρ h H) {n : Nat} {kvs : List (Key × D)} {v : V} (k : RD K Fr ρ H (.ref n) v) (e : h[n]? = some (.dct kvs)) : ∃ a vs, v = .ref a ∧ ρ[n]? = some a ∧ H a = some (.dK vs) ∧ KR K Fr ρ H kvs vs := by
  unfold RD at k
  obtain ⟨a, e1, e2⟩ := k
  obtain ⟨b, e3, vs, e4, q⟩ := r.at' n _ e
  rw [e2] at e3; cases e3
  exact ⟨a, vs, e1, e2, e4, q⟩
theorem HR.lstOf (r : HR K Fr ρ h H) {d : D} {ds : List D} {v : V} (k : RD K Fr ρ H d v) (e : lstOf h d = some ds) : ∃ a vs, v = .ref a ∧ H a = some (.lst vs) ∧ RDs K Fr ρ H ds vs := by
  cases d with
  | lst es =>
    cases e
    obtain ⟨a, vs, e1, k1, q⟩ := k.sqL
    exact ⟨a, vs, e1, k1, q⟩
  | ref n =>
    dsimp only [FF.lstOf] at e
    cases q : h[n]? with
    | none => rw [q] at e; cases e
    | some o =>
      rw [q] at e
      cases o with
      | lst es =>
        cases e
        obtain ⟨a, vs, e1, _, k1, q⟩ := r.lst k q
        exact ⟨a, vs, e1, k1, q⟩
      | _ => cases e
  | _ => cases e
theorem PPair.rds {a : Addr} {ps : List (Int × Int)} (k : PPair ρ H a ps) : ∃ vs, SqT K H a vs ∧ RDs K Fr ρ H (ps.map pairII) vs := by
  obtain ⟨o, qs, e, d, n, r⟩ := k
  refine ⟨qs.map V.ref, .inl (.inr ⟨o, e⟩), ?_⟩
  clear e
  induction r with
  | nil => exact RDs.nil
  | @cons q p qs ps h t ih =>
    refine RDs.cons ?_ ih
    unfold pairII RD
    refine ⟨q, [V.int p.1, V.int p.2], rfl, h.1, h.2, ?_⟩
    refine RDs.cons (by unfold RD; rfl) (RDs.cons (by unfold RD; rfl) RDs.nil)
/-- a sequence: as a list or a tuple -/
theorem HR.items (r : HR K Fr ρ h H) {d : D} {ds : List D} {v : V} (k : RD K Fr ρ H d v) (e : itemsOf h d = some ds) : ∃ a vs, v = .ref a ∧ (SqL K H a vs ∨ SqT K H a vs) ∧ RDs K Fr ρ H ds vs := by
  cases d with
  | tup es =>
    cases e
    obtain ⟨a, vs, e1, k1, q⟩ := k.sqT
    exact ⟨a, vs, e1, .inr k1, q⟩
  | lst es =>
    cases e
    obtain ⟨a, vs, e1, k1, q⟩ := k.sqL
    exact ⟨a, vs, e1, .inl (.of k1), q⟩
  | scr ns =>
    cases e
    unfold RD at k
    obtain ⟨a, e1, k1⟩ := k
    refine ⟨a, _, e1, .inl ?_, RDs.of_ints ns⟩
    rcases k1 with ⟨k1, _⟩ | k1
    · exact .inl k1.1
    · exact .inr k1
  | ktp ns =>
    cases e
    unfold RD at k
    obtain ⟨a, e1, k1⟩ := k
    exact ⟨a, _, e1, .inr k1.sqT, RDs.of_ints ns⟩
  | kpp ps =>
    cases e
    unfold RD at k
    obtain ⟨a, e1, k1⟩ := k
    obtain ⟨vs, s1, q⟩ := k1.rds (K := K) (Fr := Fr)
    exact ⟨a, vs, e1, .inr s1, q⟩
  | ref n =>
    dsimp only [itemsOf] at e
    cases q : h[n]? with
    | none => rw [q] at e; cases e
    | some o =>
      rw [q] at e
      cases o with
      | lst es =>
        cases e
        obtain ⟨a, vs, e1, _, k1, q⟩ := r.lst k q
        exact ⟨a, vs, e1, .inl (.of k1), q⟩
      | _ => cases e
  | _ => cases e
end
end FF

/-! FFMul: a tuple once, and none of a tuple. -/
namespace FF
open PySem PySem.Spec PyProof.Rows L2
theorem tuple_mul1 (l : Addr) (items : Array Value) (n : Nat) (dd : Option Addr) (sl : Array (Option Value)) (u : Tok) :
    Meets (Builtin.«tuple.__mul__» ⟨[.ref l, .int 1 u], []⟩) (fun _ R s => s.heap.get? l = some { cls := .type "tuple", dict := dd, data := .seq items n, slots := sl } ∧ R (.ok (.ret (.ref l))) s) :=
  .of_wp fun prog w A R s h => by
    obtain ⟨hp, g, d, tk, os⟩ := s
    obtain ⟨hl, h⟩ := h
    have f1 := AutoSeq1.idx_int
    wp_walk using wpAny_loadPart' hl
    repeat (first
      | (refine wpAny_ite_false (by decide) ?_; wp_walk using wpAny_loadPart' hl)
      | (refine wpAny_ite_true (by simp) ?_; wp_walk using wpAny_loadPart' hl))
    exact ⟨_, rfl, h⟩
theorem tuple_mul0 (l : Addr) (items : Array Value) (n : Nat) (dd : Option Addr) (sl : Array (Option Value)) (x : Int) (u : Tok) (c0 : (decide (x < -(2 ^ 63)) || decide (x ≥ 2 ^ 63)) = false) (c1 : (items.isEmpty || x == 1) = false) (c2 : (decide (x ≤ 0) || items.isEmpty) = true) :
    Meets (Builtin.«tuple.__mul__» ⟨[.ref l, .int x u], []⟩) (fun _ R s => s.heap.get? l = some { cls := .type "tuple", dict := dd, data := .seq items n, slots := sl } ∧
      R (.ok (.ret (Value.ref s.heap.objs.size))) { s with heap := s.heap.push { cls := Value.type "tuple", data := Data.seq #[] }, toks := s.toks }) :=
  .of_wp fun prog w A R s h => by
    obtain ⟨hp, g, d, tk, os⟩ := s
    obtain ⟨hl, h⟩ := h
    have f1 := AutoSeq1.idx_int
    wp_walk using wpAny_loadPart' hl
    repeat (first
      | (refine wpAny_ite_false (decide_eq_false (by rw [c0]; exact Bool.false_ne_true)) ?_; wp_walk using wpAny_loadPart' hl)
      | (refine wpAny_ite_false (decide_eq_false (by rw [c1]; exact Bool.false_ne_true)) ?_; wp_walk using wpAny_loadPart' hl)
      | (refine wpAny_ite_true (decide_eq_true c2) ?_; wp_walk using wpAny_loadPart' hl))
    exact ⟨_, rfl, h⟩
def rRep1 (K : PySem.W.Frag) : R2 := fun x y H Q => ∃ l xs, x = .ref l ∧ y = .int 1 ∧ SqT K H l xs ∧ Q (.ref l) H
def rRep0 (K : PySem.W.Frag) : R2 := fun x y H Q => ∃ l k xs, x = .ref l ∧ y = .int k ∧ SqT K H l xs ∧ xs ≠ [] ∧ -1000 ≤ k ∧ k ≤ 0 ∧ ∀ p, H p = none → Q (.ref p) (upd H p (.tup []))
section
variable {X : Cx}
theorem op_rep1 : OpR X (binaryOp .Mult) (rRep1 X.K) := by
  intro pins s σ H x y v u Q I rx ry h
  obtain ⟨l, xs, rfl, rfl, hT, q⟩ := h
  cases rx
  obtain ⟨t, rfl⟩ := ry
  obtain ⟨its, r, ⟨⟨cls, dd, data, sl⟩, ho, hc, n, hd⟩, hs⟩ := I.tuple hT
  simp only at hc hd
  subst hc hd
  exact wpAny_binaryOp_repeat_ref (T := "tuple") (U := "int") (by decide) ⟨_, ho, rfl⟩ (fun s' => typeIs_int s' 1 t) noFill_tuple_mul F.fills_int_mul F.slot_int_rmul repeat_tuple F.slot_int_index.lookup
    (call_meets F.slot_int_rmul (typeIs_int s 1 t) F.entry_int_rmul (F.args_int_rmul_2 _ _) (int_rmul_tuple 1 t l its.toArray n dd sl)
      ⟨ho, rfl, ⟨_, ho, rfl⟩, call_meets F.slot_tuple_mul ⟨_, ho, rfl⟩ F.entry_tuple_mul (F.args_tuple_mul_2 _ _) (tuple_mul1 l its.toArray n dd sl t) ⟨ho, ⟨.ref l, H, I, rfl, q⟩⟩⟩)
theorem op_rep0 : OpR X (binaryOp .Mult) (rRep0 X.K) := by
  intro pins s σ H x y v u Q I rx ry h
  obtain ⟨l, k, xs, rfl, rfl, hT, hne, k0, k1, q⟩ := h
  cases rx
  obtain ⟨t, rfl⟩ := ry
  obtain ⟨its, r, ⟨⟨cls, dd, data, sl⟩, ho, hc, n, hd⟩, hs⟩ := I.tuple hT
  simp only at hc hd
  subst hc hd
  have hle : its.length = xs.length := r.length.symm
  have hi : its.toArray.isEmpty = false := by
    cases its with
    | nil => exact absurd (List.eq_nil_of_length_eq_zero hle.symm) hne
    | cons a b => rfl
  have c0 : (decide (k < -(2 ^ 63)) || decide (k ≥ 2 ^ 63)) = false := by
    rw [decide_eq_false (by omega), decide_eq_false (by omega)] <;> rfl
  have c1 : (its.toArray.isEmpty || k == 1) = false := by
    rw [hi, Bool.false_or]
    exact beq_eq_false_iff_ne.mpr (by omega)
  have c2 : (decide (k ≤ 0) || its.toArray.isEmpty) = true := by
    rw [hi, Bool.or_false]
    exact decide_eq_true k1
  refine wpAny_binaryOp_repeat_ref (T := "tuple") (U := "int") (by decide) ⟨_, ho, rfl⟩ (fun s' => typeIs_int s' k t) noFill_tuple_mul F.fills_int_mul F.slot_int_rmul repeat_tuple F.slot_int_index.lookup
    (call_meets F.slot_int_rmul (typeIs_int s k t) F.entry_int_rmul (F.args_int_rmul_2 _ _) (int_rmul_tuple k t l its.toArray n dd sl)
      ⟨ho, rfl, ⟨_, ho, rfl⟩, call_meets F.slot_tuple_mul ⟨_, ho, rfl⟩ F.entry_tuple_mul (F.args_tuple_mul_2 _ _) (tuple_mul0 l its.toArray n dd sl k t c0 c1 c2) ⟨ho, ?_⟩⟩)
  refine ⟨.ref s.heap.objs.size, _, I.laid (t' := s.toks) (o := .tup []) (fun b ob q => Heap.get?_push_of_some _ q) (Nat.le_refl _) ?_, rfl, q _ (I.hok.fresh (Nat.le_refl _))⟩
  exact ⟨by rw [sizeLine_eq]; simp, [], .nil, IsTup.new _ _⟩
theorem foldl_size (a : Array Nat) : ∀ (m : Nat) (acc : Array Nat), (List.foldl (· ++ ·) acc (List.replicate m a)).size = acc.size + m * a.size
  | 0, acc => by simp
  | m + 1, acc => by
    rw [List.replicate_succ, List.foldl_cons, foldl_size a m, Array.size_append, Nat.succ_mul]
    omega
/-- a text so many times -/
def rRepS : R2 := fun x y H Q => ∃ z k, x = .str z ∧ y = .int k ∧ 0 ≤ k ∧ k ≤ 1000 ∧ z.length ≤ 1000 ∧ Q (.str (strRep z k)) H
theorem op_repS : OpR X (binaryOp .Mult) rRepS := by
  intro pins s σ H x y v u Q I rx ry h
  obtain ⟨z, k, rfl, rfl, k0, k1, hz, q⟩ := h
  obtain ⟨t, rfl⟩ := rx
  obtain ⟨t', rfl⟩ := ry
  have c0 : (decide (k < -(2 ^ 63)) || decide (k ≥ 2 ^ 63)) = false := by
    rw [decide_eq_false (by omega), decide_eq_false (by omega)] <;> rfl
  refine P.mul_str c0 (fun h1 _ => ?_) (fun h1 _ => ?_) ?_
  · have hk : 0 < k := by omega
    have m : (z.length : Int) * k ≤ 1000 * k := Int.mul_le_mul_of_nonneg_right (by omega) (by omega)
    have : (z.length : Int) ≤ (2 ^ 63 - 1) / k := Int.le_ediv_of_mul_le hk (by omega)
    omega
  · have : z.length * k.toNat ≤ 1000 * 1000 := Nat.mul_le_mul hz (by omega)
    show decide (_ > _) = false
    rw [decide_eq_false_iff_not, sizeLine_eq]
    omega
  · unfold strRep at q
    by_cases h1 : k < 1
    · rw [if_pos h1] at q ⊢
      exact ⟨by decide, ⟨.str _, H, I.tok _, ⟨_, rfl⟩, q⟩⟩
    · rw [if_neg h1] at q ⊢
      by_cases h2 : (k == 1 || z.length == 0) = true
      · rw [if_pos h2] at q ⊢
        exact ⟨.str _, H, I, ⟨_, rfl⟩, q⟩
      · rw [if_neg h2] at q ⊢
        refine ⟨?_, ⟨.str _, H, I.tok _, ⟨_, rfl⟩, q⟩⟩
        have : z.length * k.toNat ≤ 1000 * 1000 := Nat.mul_le_mul hz (by omega)
        show (List.foldl (· ++ ·) #[] (List.replicate k.toNat z.cps)).size ≤ _
        rw [foldl_size, sizeLine_eq]
        have e : z.cps.size = z.length := rfl
        rw [e, Nat.mul_comm]
        simp
        omega
end
end FF

/-! FFPlain: tuples that are known to have no dict of their own. -/
namespace FF
open PySem PySem.Spec PyProof.Rows L2
def rCatF (K : PySem.W.Frag) : R2 := fun x y H Q => ∃ a b xs ys, x = .ref a ∧ y = .ref b ∧ SqT K H a xs ∧ SqT K H b ys ∧ xs.length + ys.length ≤ sizeLine ∧
  (xs = [] → Q (.ref b) H) ∧ (xs ≠ [] → ys = [] → Q (.ref a) H) ∧ (xs ≠ [] → ys ≠ [] → ∀ (p : Addr) (o : Obj), H p = none → o.dict = none → Q (.ref p) (upd H p (.frz o (.tup (xs ++ ys)))))
section
variable {X : Cx}
theorem op_catF : OpR X (binaryOp .Add) (rCatF X.K) := by
  intro pins s σ H x y v u Q I rx ry h
  obtain ⟨a, b, xs, ys, rfl, rfl, ha, hb, hz, q0, q1, q2⟩ := h
  by_cases hx : xs = []
  · subst hx
    cases rx
    cases ry
    obtain ⟨its, r1, p1, _⟩ := I.tuple ha
    obtain ⟨its2, r2, p2, _⟩ := I.tuple hb
    cases r1
    exact cat_tup0 p1 p2 ⟨.ref b, H, I, rfl, q0 rfl⟩
  · cases rx
    cases ry
    obtain ⟨its, r1, p1, _⟩ := I.tuple ha
    obtain ⟨its2, r2, p2, _⟩ := I.tuple hb
    refine HT.cat_tup p1 p2 (fun z => hx (r1.nil_iff.mp z)) (fun z => ⟨.ref a, H, I, rfl, q1 hx (r2.nil_iff.mp z)⟩) (fun z => ?_) (by rw [← r1.length, ← r2.length]; exact hz)
    refine ⟨.ref s.heap.objs.size, _, I.laid (t' := s.toks) (o := .frz { cls := .type "tuple", data := .seq (its ++ its2).toArray } (.tup (xs ++ ys))) (fun b ob q => Heap.get?_push_of_some _ q) (Nat.le_refl _) ?_, rfl, q2 hx (fun w => z (r2.nil_iff.mpr w)) _ _ (I.hok.fresh (Nat.le_refl _)) rfl⟩
    exact ⟨Heap.get?_push_size _ rfl, by rw [List.length_append]; exact hz, _, r1.append r2, IsTup.new _ _⟩
def rRepF (K : PySem.W.Frag) : R2 := fun x y H Q => ∃ l k xs, x = .ref l ∧ y = .int k ∧ SqT K H l xs ∧ xs ≠ [] ∧ 2 ≤ k ∧ k ≤ 1000 ∧ xs.length ≤ 1000 ∧ ∀ (p : Addr) (o : Obj), H p = none → o.dict = none → Q (.ref p) (upd H p (.frz o (.tup (List.replicate k.toNat xs).flatten)))
theorem op_repF : OpR X (binaryOp .Mult) (rRepF X.K) := by
  intro pins s σ H x y v u Q I rx ry h
  obtain ⟨l, k, xs, rfl, rfl, hT, hne, h1, h2, hz, q⟩ := h
  cases rx
  obtain ⟨t, rfl⟩ := ry
  obtain ⟨its, r, ⟨⟨cls, dd, data, sl⟩, ho, hc, n, hd⟩, hs⟩ := I.tuple hT
  simp only at hc hd
  subst hc hd
  have hle : its.length = xs.length := r.length.symm
  have hn : its ≠ [] := fun e => hne (by
    rw [e] at hle
    exact List.eq_nil_of_length_eq_zero hle.symm)
  have hi : its.toArray.isEmpty = false := by
    cases its with
    | nil => exact absurd rfl hn
    | cons a b => rfl
  have hsz0 : its.toArray.size = xs.length := by rw [List.size_toArray, hle]
  have hm : ((its.toArray.size : Nat) : Int) * k ≤ 1000000 := by
    rw [hsz0]
    have a1 : ((xs.length : Nat) : Int) * k ≤ 1000 * k := Int.mul_le_mul_of_nonneg_right (by omega) (by omega)
    omega
  have flen : (List.replicate k.toNat its).flatten.length ≤ sizeLine := by
    rw [PyProof.Rows.lm_len_rep_flat, hle, sizeLine_eq]
    have a1 : k.toNat * xs.length ≤ 1000 * 1000 := Nat.mul_le_mul (by omega) hz
    omega
  have c0 : (decide (k < -(2 ^ 63)) || decide (k ≥ 2 ^ 63)) = false := by
    rw [decide_eq_false (by omega), decide_eq_false (by omega)] <;> rfl
  have c1 : (its.toArray.isEmpty || k == 1) = false := by
    rw [hi, Bool.false_or]
    exact beq_eq_false_iff_ne.mpr (by omega)
  have c2 : (decide (k ≤ 0) || its.toArray.isEmpty) = false := by
    rw [hi, Bool.or_false]
    exact decide_eq_false (by omega)
  have c4 : Builtin.Tuple.tupleTooMany (((its.toArray.size : Nat) : Int) * k) = false := by
    unfold Builtin.Tuple.tupleTooMany
    rw [sizeLine_eq]
    exact decide_eq_false (by omega)
  refine wpAny_binaryOp_repeat_ref (T := "tuple") (U := "int") (by decide) ⟨_, ho, rfl⟩ (fun s' => typeIs_int s' k t) noFill_tuple_mul F.fills_int_mul F.slot_int_rmul repeat_tuple F.slot_int_index.lookup
    (call_meets F.slot_int_rmul (typeIs_int s k t) F.entry_int_rmul (F.args_int_rmul_2 _ _) (int_rmul_tuple k t l its.toArray n dd sl)
      ⟨ho, rfl, ⟨_, ho, rfl⟩, call_meets F.slot_tuple_mul ⟨_, ho, rfl⟩ F.entry_tuple_mul (F.args_tuple_mul_2 _ _) (tuple_mulW l its.toArray n dd sl k t c0 c1 c2 (by omega) c4 (by rw [size_rep, List.size_toArray]; exact flen)) ⟨ho, ?_⟩⟩)
  rw [size_rep]
  refine ⟨.ref s.heap.objs.size, _, I.laid (t' := s.toks) (o := .frz { cls := .type "tuple", data := .seq (List.replicate k.toNat its).flatten.toArray } (.tup (List.replicate k.toNat xs).flatten)) (fun b ob q => Heap.get?_push_of_some _ q) (Nat.le_refl _) ?_, rfl, q _ _ (I.hok.fresh (Nat.le_refl _)) rfl⟩
  refine ⟨Heap.get?_push_size _ rfl, ?_, _, r.rep k.toNat, IsTup.new _ _⟩
  rw [PyProof.Rows.lm_len_rep_flat] at flen ⊢
  rw [← hle]; exact flen
/-! ### slices, backwards -/
def rSlF (K : PySem.W.Frag) : V → Option Int → Option Int → Hp → VK → Prop := fun x lo hi H Q => ∃ a xs, x = .ref a ∧ SqT K H a xs ∧
  (HT.sIx xs.length 0 lo = 0 ∧ HT.sIx xs.length xs.length hi = xs.length → Q (.ref a) H) ∧ (¬ (HT.sIx xs.length 0 lo = 0 ∧ HT.sIx xs.length xs.length hi = xs.length) → ∀ (p : Addr) (o : Obj), H p = none → o.dict = none → Q (.ref p) (upd H p (.frz o (.tup (cutV xs lo hi)))))
theorem sl_tupF : SlR X (rSlF X.K) := by
  intro pins s σ H x v vl vu lo hi sl Q I rx hs pl pu h
  obtain ⟨a, xs, rfl, hx, q1, q2⟩ := h
  cases rx
  obtain ⟨its, r, ht, hz⟩ := I.tuple hx
  have hlen : its.toArray.size = xs.length := by rw [List.size_toArray]; exact r.length.symm
  refine ⟨"tuple", _, PyProof.Rows.slot_tuple_getitem.lookup, ht.typeIs, ?_⟩
  by_cases hw : HT.sIx xs.length 0 lo = 0 ∧ HT.sIx xs.length xs.length hi = xs.length
  · exact getItem_tuple_whole ht hs pl pu (by rw [hlen]; exact hw) ⟨.ref a, H, I, rfl, q1 hw⟩
  · refine HT.getItem_tuple_cut ht hs pl pu (by rw [hlen]; exact hw) ?_ (by rw [hlen]; exact hz)
    rw [hlen]
    refine ⟨.ref s.heap.objs.size, _, I.laid (t' := s.toks) (o := .frz { cls := .type "tuple", data := .seq ((its.toArray.toList.drop (HT.sIx xs.length 0 lo)).take (HT.sIx xs.length xs.length hi - HT.sIx xs.length 0 lo)).toArray } (.tup (cutV xs lo hi))) (fun b ob q => Heap.get?_push_of_some _ q) (Nat.le_refl _) ?_, rfl, q2 hw _ _ (I.hok.fresh (Nat.le_refl _)) rfl⟩
    exact ⟨Heap.get?_push_size _ rfl, Nat.le_trans (cutV_length xs lo hi) hz, _, (r.drop (HT.sIx xs.length 0 lo)).take (HT.sIx xs.length xs.length hi - HT.sIx xs.length 0 lo), IsTup.new _ _⟩
/-! ### t.count(i) -/
end
end FF

/-! FFSE: the evaluator's expressions keep what the layer asks: operators. -/
namespace FF
open PySem PySem.Spec PyProof.Rows L2

section
variable {α β : Type} {P P' : α → Prop} {E E' : D → Hq → Prop}
def okR (P : α → Prop) (E : D → Hq → Prop) : R α → Prop
  | .ok a => P a
  | .exc e h => E e h
  | .stuck => False
theorem okR_bind {r : R α} {f : α → R β} {P : β → Prop} : okR P E (r.bind f) ↔ okR (fun a => okR P E (f a)) E r := by cases r <;> exact Iff.rfl
theorem okR.mono {r : R α} (h : okR P E r) (hp : ∀ a, P a → P' a) (he : ∀ e h, E e h → E' e h) : okR P' E' r := by
  cases r with
  | ok a => exact hp a h
  | exc e q => exact he e q h
  | stuck => exact h
theorem okR_lift {o : Option α} (h : okR P E (lift o)) : ∃ a, o = some a ∧ P a := by
  cases o with
  | none => exact h.elim
  | some a => exact ⟨a, rfl, h⟩
end

/-- what is wanted of an exception, by the cells as they stand -/
structure EK (K : PySem.W.Frag) where
  p : List Addr → List Addr → Hp → L2.St → D → Hq → Prop
  mono : ∀ {Fr ρ H ρ' H' σ e h h'}, Ext ρ H ρ' H' → HR K Fr ρ' h' H' → p Fr ρ H σ e h → p Fr ρ' H' σ e h
/-- none leaves -/
def EK.none (K : PySem.W.Frag) : EK K := ⟨fun _ _ _ _ _ _ => False, fun _ _ h => h⟩

section
variable (K : PySem.W.Frag) (W : EK K)
def Kont (Fr ρ : List Addr) (H : Hp) (Q : VK) : D × Hq → Prop := fun p => ∀ v ρ' H', Ext ρ H ρ' H' → HR K Fr ρ' p.2 H' → RD K Fr ρ' H' p.1 v → Q v H'
def KontB (Fr ρ : List Addr) (H : Hp) (Q : Bool → Hp → Prop) : Bool × Hq → Prop := fun p => ∀ ρ' H', Ext ρ H ρ' H' → HR K Fr ρ' p.2 H' → Q p.1 H'
def KontA (Fr ρ : List Addr) (H : Hp) (Q : List V → Hp → Prop) : List D × Hq → Prop := fun p => ∀ vs ρ' H', Ext ρ H ρ' H' → HR K Fr ρ' p.2 H' → RDs K Fr ρ' H' p.1 vs → Q vs H'
def TEk (f : Env' → Hq → R (D × Hq)) : TE := fun σ H Q => ∃ Fr ρ s h, HR K Fr ρ h H ∧ SR K Fr ρ H s σ ∧ okR (Kont K Fr ρ H Q) (W.p Fr ρ H σ) (f s h)
def TTk (f : Env' → Hq → R (Bool × Hq)) : TT := fun σ H Q => ∃ Fr ρ s h, HR K Fr ρ h H ∧ SR K Fr ρ H s σ ∧ okR (KontB K Fr ρ H Q) (W.p Fr ρ H σ) (f s h)
def TAk (f : Env' → Hq → R (List D × Hq)) : TA := fun σ H Q => ∃ Fr ρ s h, HR K Fr ρ h H ∧ SR K Fr ρ H s σ ∧ okR (KontA K Fr ρ H Q) (W.p Fr ρ H σ) (f s h)
/-- two values, reckoned on -/
def rD (g : D → D → Hq → Option (D × Hq)) : R2 := fun x y H Q => ∃ Fr ρ h d e, HR K Fr ρ h H ∧ RD K Fr ρ H d x ∧ RD K Fr ρ H e y ∧ ∃ p, g d e h = some p ∧ Kont K Fr ρ H Q p
def rD1 (g : D → Hq → Option (D × Hq)) : V → Hp → VK → Prop := fun x H Q => ∃ Fr ρ h d, HR K Fr ρ h H ∧ RD K Fr ρ H d x ∧ ∃ p, g d h = some p ∧ Kont K Fr ρ H Q p
def rDs (g : List D → Hq → Option (D × Hq)) : List V → Hp → VK → Prop := fun xs H Q => ∃ Fr ρ h ds, HR K Fr ρ h H ∧ RDs K Fr ρ H ds xs ∧ ∃ p, g ds h = some p ∧ Kont K Fr ρ H Q p
end

/-- an expression, a test, arguments by the evaluator -/
def SE (X : Cx) (W : EK X.K) (e : Expr) (f : Env' → Hq → R (D × Hq)) : Prop := PE X e (TEk X.K W f)
def ST (X : Cx) (W : EK X.K) (e : Expr) (f : Env' → Hq → R (Bool × Hq)) : Prop := PT X e (TTk X.K W f)
def SA (X : Cx) (W : EK X.K) (e : List Expr) (f : Env' → Hq → R (List D × Hq)) : Prop := PA X e (TAk X.K W f)

section
variable {X : Cx}
theorem PE.imp {e : Expr} {t t' : TE} (h : PE X e t) (i : ∀ σ H Q, t' σ H Q → t σ H Q) : PE X e t' := ⟨fun pins s σ H Q I q => h.run pins s σ H Q I (i σ H Q q)⟩
theorem PT.imp {e : Expr} {t t' : TT} (h : PT X e t) (i : ∀ σ H Q, t' σ H Q → t σ H Q) : PT X e t' := ⟨fun pins s σ H Q I q => h.run pins s σ H Q I (i σ H Q q)⟩
theorem PA.imp {e : List Expr} {t t' : TA} (h : PA X e t) (i : ∀ σ H Q, t' σ H Q → t σ H Q) : PA X e t' := ⟨fun pos pins s σ H Q I q => h.run pos pins s σ H Q I (i σ H Q q)⟩
theorem PS.imp {e : Stmt} {t t' : TS} (h : PS X e t) (i : ∀ D σ H, t' D σ H → t D σ H) : PS X e t' := ⟨fun pins s σ H Q I q => h.run pins s σ H Q I (i _ _ _ q)⟩
theorem PSs.imp {e : List Stmt} {t t' : TS} (h : PSs X e t) (i : ∀ D σ H, t' D σ H → t D σ H) : PSs X e t' := ⟨fun pins s σ H Q I q => h.run pins s σ H Q I (i _ _ _ q)⟩
theorem OpR.imp {f : Value → Value → Sem Value} {r r' : R2} (h : OpR X f r) (i : ∀ x y H Q, r' x y H Q → r x y H Q) : OpR X f r' := fun pins s σ H x y v u Q I rx ry q => h pins s σ H x y v u Q I rx ry (i _ _ _ _ q)
theorem UnR.imp {f : Value → Sem Value} {r r' : V → Hp → VK → Prop} (h : UnR X f r) (i : ∀ x H Q, r' x H Q → r x H Q) : UnR X f r' := fun pins s σ H x v Q I rx q => h pins s σ H x v Q I rx (i _ _ _ q)
theorem CallR.imp {f : Value} {r r' : List V → Hp → VK → Prop} (h : CallR X f r) (i : ∀ x H Q, r' x H Q → r x H Q) : CallR X f r' := fun pins s σ H x v Q I rx q => h pins s σ H x v Q I rx (i _ _ _ q)
theorem IxR.imp {r r' : R2} (h : IxR X r) (i : ∀ x y H Q, r' x y H Q → r x y H Q) : IxR X r' := fun va sl pins s σ H x y v u Q I rx ry q => h va sl pins s σ H x y v u Q I rx ry (i _ _ _ _ q)
theorem MtR.imp {id : String} {r r' : V → List V → Hp → VK → Prop} (h : MtR X id r) (i : ∀ x y H Q, r' x y H Q → r x y H Q) : MtR X id r' := fun pins s σ H x y v u Q I rx ry q => h pins s σ H x y v u Q I rx ry (i _ _ _ _ q)
theorem SlR.imp {r r' : V → Option Int → Option Int → Hp → VK → Prop} (h : SlR X r) (i : ∀ x a b H Q, r' x a b H Q → r x a b H Q) : SlR X r' := fun pins s σ H x v vl vu lo hi sl Q I rx a b c q => h pins s σ H x v vl vu lo hi sl Q I rx a b c (i _ _ _ _ _ q)
theorem PE.or {e : Expr} {t t' : TE} (h : PE X e t) (h' : PE X e t') : PE X e (fun σ H Q => t σ H Q ∨ t' σ H Q) := ⟨fun pins s σ H Q I q => q.elim (fun q => h.run pins s σ H Q I q) fun q => h'.run pins s σ H Q I q⟩
end

section
variable {K : PySem.W.Frag} {W : EK K} {Fr ρ ρ' : List Addr} {H H' : Hp} {h h' : Hq} {Q : VK}
/-- a scalar comes, nothing is changed -/
theorem Kont.same {d : D} {v : V} (k : Kont K Fr ρ H Q (d, h)) (r : HR K Fr ρ h H) (x : RD K Fr ρ H d v) : Q v H := k v ρ H .refl r x
theorem Kont.tup {ds : List D} {vs : List V} {p : Addr} (k : Kont K Fr ρ H Q (.tup ds, h)) (r : HR K Fr ρ h H) (x : RDs K Fr ρ H ds vs) (hp : H p = none) : Q (.ref p) (upd H p (.tup vs)) := by
  refine k _ ρ _ (ext_new hp) (r.new hp) ?_
  unfold RD
  exact ⟨p, vs, rfl, upd_same, (r.fresh hp).1, RDs.mono (ext_new hp) _ _ x⟩
theorem Kont.ktp {ns : List Int} {p : Addr} {o : Obj} (k : Kont K Fr ρ H Q (.ktp ns, h)) (r : HR K Fr ρ h H) (hp : H p = none) (ho : o.dict = none) : Q (.ref p) (upd H p (.frz o (.tup (ns.map V.int)))) := by
  refine k _ ρ _ (ext_new hp) (r.new hp) ?_
  unfold RD
  exact ⟨p, rfl, .inl ⟨⟨o, upd_same, ho⟩, (r.fresh hp).1⟩⟩
theorem RD.newL {ds : List D} {vs : List V} {p : Addr} (r : HR K Fr ρ h H) (x : RDs K Fr ρ H ds vs) (hp : H p = none) : RD K Fr ρ (upd H p (.lst vs)) (.lst ds) (.ref p) := by
  unfold RD
  exact ⟨p, vs, rfl, upd_same, (r.fresh hp).1, (r.fresh hp).2, RDs.mono (ext_new hp) _ _ x⟩
theorem Kont.lst {ds : List D} {vs : List V} {p : Addr} {q : D × Hq} {live : Bool} (k : Kont K Fr ρ H Q q) (e : mkL live ds h = some q) (r : HR K Fr ρ h H) (x : RDs K Fr ρ H ds vs) (hp : H p = none) : Q (.ref p) (upd H p (.lst vs)) := by
  unfold mkL at e
  split at e
  · split at e
    · cases e
      refine k _ (ρ ++ [p]) _ (ext_cell hp) (r.cell hp ⟨vs, upd_same, RDs.mono (ext_cell hp) _ _ x⟩) ?_
      unfold RD
      exact ⟨p, rfl, by rw [List.getElem?_append_right (by rw [r.len]; exact Nat.le_refl _), r.len]; simp⟩
    · cases e
      exact k _ ρ _ (ext_new hp) (r.new hp) (RD.newL r x hp)
  · cases e
theorem mkL_len {ds : List D} {q : D × Hq} {live : Bool} (e : mkL live ds h = some q) : ds.length ≤ sizeLine := by
  unfold mkL at e
  split at e
  · rename_i hl; rw [sizeLine_eq]; exact of_decide_eq_true hl
  · cases e
theorem lineOk_le {n : Nat} (e : lineOk n = true) : n ≤ sizeLine := by rw [sizeLine_eq]; exact of_decide_eq_true e

theorem rd_int {i : Int} {v : V} : RD K Fr ρ H (.int i) v ↔ v = .int i := by unfold RD; exact Iff.rfl
theorem rd_bl {i : Bool} {v : V} : RD K Fr ρ H (.bl i) v ↔ v = .bl i := by unfold RD; exact Iff.rfl
theorem rd_str {i : Str} {v : V} : RD K Fr ρ H (.str i) v ↔ v = .str i := by unfold RD; exact Iff.rfl
theorem rd_non {v : V} : RD K Fr ρ H .non v ↔ v = .non := by unfold RD; exact Iff.rfl

/-- two operands -/
theorem t2 {fa fb : Env' → Hq → R (D × Hq)} {g : D → D → Hq → R (D × Hq)} {σ : L2.St} (t : TEk K W (fun s h => (fa s h).bind fun p => (fb s p.2).bind fun q => g p.1 q.1 q.2) σ H Q) :
    TEk K W fa σ H fun x H1 => TEk K W fb σ H1 fun y H2 => ∃ Fr ρ h d e, HR K Fr ρ h H2 ∧ RD K Fr ρ H2 d x ∧ RD K Fr ρ H2 e y ∧ okR (Kont K Fr ρ H2 Q) (W.p Fr ρ H2 σ) (g d e h) := by
  obtain ⟨Fr, ρ, s, h, r, sr, ok⟩ := t
  refine ⟨Fr, ρ, s, h, r, sr, (okR_bind.mp ok).mono (fun p q v ρ1 H1 x1 r1 d1 => ?_) fun _ _ z => z⟩
  refine ⟨Fr, ρ1, s, p.2, r1, sr.mono x1, (okR_bind.mp q).mono (fun p2 q2 w ρ2 H2 x2 r2 d2 => ?_) fun _ _ z => W.mono x1 r1 z⟩
  refine ⟨Fr, ρ2, p2.2, p.1, p2.1, r2, RD.mono x2 _ _ d1, d2, q2.mono (fun a k u ρ3 H3 x3 r3 d3 => k u ρ3 H3 ((x1.step r1 x2).step r2 x3) r3 d3) fun _ _ z => W.mono (x1.step r1 x2) r2 z⟩
theorem t2o {fa fb : Env' → Hq → R (D × Hq)} {g : D → D → Hq → Option (D × Hq)} {σ : L2.St} (t : TEk K W (fun s h => (fa s h).bind fun p => (fb s p.2).bind fun q => lift (g p.1 q.1 q.2)) σ H Q) :
    tOp (rD K g) (TEk K W fa) (TEk K W fb) σ H Q := by
  obtain ⟨Fr, ρ, s, h, r, sr, ok⟩ := t2 (g := fun d e h => lift (g d e h)) t
  refine ⟨Fr, ρ, s, h, r, sr, ok.mono (fun p q v ρ1 H1 x1 r1 d1 => ?_) fun _ _ z => z⟩
  obtain ⟨Fr, ρ, s, h, r, sr, ok⟩ := q v ρ1 H1 x1 r1 d1
  refine ⟨Fr, ρ, s, h, r, sr, ok.mono (fun p q v ρ1 H1 x1 r1 d1 => ?_) fun _ _ z => z⟩
  obtain ⟨Fr, ρ, h, d, e, r, d1, d2, ok⟩ := q v ρ1 H1 x1 r1 d1
  exact ⟨Fr, ρ, h, d, e, r, d1, d2, okR_lift ok⟩
theorem t1 {fa : Env' → Hq → R (D × Hq)} {g : D → Hq → R (D × Hq)} {σ : L2.St} (t : TEk K W (fun s h => (fa s h).bind fun p => g p.1 p.2) σ H Q) :
    TEk K W fa σ H fun x H1 => ∃ Fr ρ h d, HR K Fr ρ h H1 ∧ RD K Fr ρ H1 d x ∧ okR (Kont K Fr ρ H1 Q) (W.p Fr ρ H1 σ) (g d h) := by
  obtain ⟨Fr, ρ, s, h, r, sr, ok⟩ := t
  refine ⟨Fr, ρ, s, h, r, sr, (okR_bind.mp ok).mono (fun p q v ρ1 H1 x1 r1 d1 => ?_) fun _ _ z => z⟩
  exact ⟨Fr, ρ1, p.2, p.1, r1, d1, q.mono (fun a k u ρ3 H3 x3 r3 d3 => k u ρ3 H3 (x1.step r1 x3) r3 d3) fun _ _ z => W.mono x1 r1 z⟩
theorem t1o {fa : Env' → Hq → R (D × Hq)} {g : D → Hq → Option (D × Hq)} {σ : L2.St} (t : TEk K W (fun s h => (fa s h).bind fun p => lift (g p.1 p.2)) σ H Q) :
    tUn (rD1 K g) (TEk K W fa) σ H Q := by
  obtain ⟨Fr, ρ, s, h, r, sr, ok⟩ := t1 (g := fun d h => lift (g d h)) t
  refine ⟨Fr, ρ, s, h, r, sr, ok.mono (fun p q v ρ1 H1 x1 r1 d1 => ?_) fun _ _ z => z⟩
  obtain ⟨Fr, ρ, h, d, r, d1, ok⟩ := q v ρ1 H1 x1 r1 d1
  exact ⟨Fr, ρ, h, d, r, d1, okR_lift ok⟩
end

/-! ### operators -/
section
variable {X : Cx}
theorem op_int2 {f : Value → Value → Sem Value} {C : Int → Int → Bool} {C' : Int → Int → Prop} {g : Int → Int → Int} (o : OpR X f (rI C' fun i j => .int (g i j))) (hc : ∀ i j, C i j = true → C' i j) : OpR X f (rD X.K (int2 C g)) :=
  OpR.imp o fun x y H Q ⟨Fr, ρ, h, d, e, r, d1, d2, p, q, k⟩ => by
    unfold int2 at q
    split at q
    · rename_i i j
      split at q
      · rename_i c
        cases q
        exact ⟨i, j, rd_int.mp d1, rd_int.mp d2, hc i j c, k.same r (rd_int.mpr rfl)⟩
      · cases q
    · cases q
theorem op_int20 {f : Value → Value → Sem Value} {C : Int → Int → Bool} {g : Int → Int → Int} (o : OpR X f (rI0 fun i j => .int (g i j))) : OpR X f (rD X.K (int2 C g)) :=
  OpR.imp o fun x y H Q ⟨Fr, ρ, h, d, e, r, d1, d2, p, q, k⟩ => by
    unfold int2 at q
    split at q
    · rename_i i j
      split at q
      · cases q
        exact ⟨i, j, rd_int.mp d1, rd_int.mp d2, k.same r (rd_int.mpr rfl)⟩
      · cases q
    · cases q
theorem op_addD {live : Bool} : OpR X (binaryOp .Add) (rD X.K (addD live)) := by
  refine OpR.imp (op_add.or (op_add_str.or (op_catA.or (op_cat.or op_catF)))) fun x y H Q ⟨Fr, ρ, h, d, e, r, d1, d2, p, q, k⟩ => ?_
  unfold addD at q
  split at q
  · cases q
    exact .inl ⟨_, _, rd_int.mp d1, rd_int.mp d2, k.same r (rd_int.mpr rfl)⟩
  · split at q
    · rename_i hl
      cases q
      exact .inr (.inl ⟨_, _, rd_str.mp d1, rd_str.mp d2, lineOk_le hl, k.same r (rd_str.mpr rfl)⟩)
    · cases q
  · split at q
    · rename_i hl
      cases q
      obtain ⟨a, xs, rfl, s1, q1⟩ := d1.sqT
      obtain ⟨b, ys, rfl, s2, q2⟩ := d2.sqT
      refine .inr (.inr (.inl ⟨a, b, xs, ys, rfl, rfl, s1, s2, by rw [← q1.length, ← q2.length]; exact lineOk_le hl, fun e0 => ?_, fun _ e0 => ?_, fun _ _ p hp => k.tup r (q1.append q2) hp⟩))
      · have l0 := q1.length
        rw [e0, List.length_nil, List.length_eq_zero_iff] at l0
        subst l0
        exact k.same r (by simpa using d2)
      · have l0 := q2.length
        rw [e0, List.length_nil, List.length_eq_zero_iff] at l0
        subst l0
        exact k.same r (by simpa using d1)
    · cases q
  · rename_i i j
    split at q
    · rename_i hl
      cases q
      have d1' := d1
      have d2' := d2
      unfold RD at d1' d2'
      obtain ⟨a, rfl, k1⟩ := d1'
      obtain ⟨b, rfl, k2⟩ := d2'
      refine .inr (.inr (.inr (.inr ⟨a, b, _, _, rfl, rfl, k1.sqT, k2.sqT, by rw [List.length_map, List.length_map]; exact lineOk_le hl, fun e0 => ?_, fun _ e0 => ?_, fun _ _ p o hp ho => ?_⟩)))
      · have l0 : i = [] := List.map_eq_nil_iff.mp e0
        subst l0
        exact k.same r (by simpa using d2)
      · have l0 : j = [] := List.map_eq_nil_iff.mp e0
        subst l0
        exact k.same r (by simpa using d1)
      · rw [← List.map_append]
        exact k.ktp r hp ho
    · cases q
  · split at q
    · rename_i i j h1 h2
      split at q
      · rename_i hl
        obtain ⟨a, xs, rfl, s1, q1⟩ := r.lstOf d1 h1
        obtain ⟨b, ys, rfl, s2, q2⟩ := r.lstOf d2 h2
        exact .inr (.inr (.inr (.inl ⟨a, b, xs, ys, rfl, rfl, s1, s2, by rw [← q1.length, ← q2.length]; exact lineOk_le hl, fun p hp => k.lst q r (q1.append q2) hp⟩)))
      · cases q
    · cases q

theorem mulOk_ok {i j : Int} (h : mulOk i j = true) : CMul i j ∨ CMulW i j := by
  unfold mulOk at h
  simp only [Bool.or_eq_true, decide_eq_true_eq, Bool.and_eq_true, wide] at h
  rcases h with (h | h) | h
  · exact .inl (.inl h)
  · exact .inl (.inr h)
  · refine .inr ?_
    unfold CMulW; omega
theorem op_repB : OpR X (binaryOp .Mult) (rI (fun i j => CMul i j ∨ CMulW i j) fun i j => .int (i * j)) :=
  OpR.imp (op_mul.or op_mulW) fun x y H Q ⟨i, j, e1, e2, c, q⟩ => c.imp (fun c => ⟨i, j, e1, e2, c, q⟩) fun c => ⟨i, j, e1, e2, c, q⟩
theorem op_mulD {live : Bool} : OpR X (binaryOp .Mult) (rD X.K (mulD live)) := by
  refine OpR.imp ((op_repB.or (op_repT.or (op_rep.or (op_rep1.or (op_rep0.or op_repF))))).or op_repS) fun x y H Q ⟨Fr, ρ, h, d, e, r, d1, d2, p, q, k⟩ => ?_
  by_cases ds : ∃ z, d = .str z
  · obtain ⟨z, rfl⟩ := ds
    refine .inr ?_
    unfold mulD at q
    split at q
    · dsimp only at q
      split at q
      · rename_i c
        cases q
        exact ⟨z, _, rd_str.mp d1, rd_int.mp d2, c.1, c.2.1, c.2.2, k.same r (rd_str.mpr rfl)⟩
      · cases q
    · cases q
  refine .inl ?_
  unfold mulD at q
  split at q
  · rename_i j
    split at q
    · split at q
      · rename_i c
        cases q
        exact .inl ⟨_, _, rd_int.mp d1, rd_int.mp d2, mulOk_ok c, k.same r (rd_int.mpr rfl)⟩
      · cases q
    · split at q
      · rename_i c
        cases q
        obtain ⟨a, xs, rfl, s1, q1⟩ := d1.sqT
        have hne : xs ≠ [] := fun z => c.1 (by
          have l0 := q1.length
          rw [z, List.length_nil, List.length_eq_zero_iff] at l0
          exact l0)
        by_cases h2 : 2 ≤ j
        · exact .inr (.inl ⟨a, j, xs, rfl, rd_int.mp d2, s1, hne, h2, c.2.2.1, by rw [← q1.length]; exact c.2.2.2, fun p hp => k.tup r (q1.rep _) hp⟩)
        by_cases h1 : j = 1
        · subst h1
          exact .inr (.inr (.inr (.inl ⟨a, xs, rfl, rd_int.mp d2, s1, k.same r (by simpa using d1)⟩)))
        · have e0 : j.toNat = 0 := by omega
          rw [e0] at k
          exact .inr (.inr (.inr (.inr (.inl ⟨a, j, xs, rfl, rd_int.mp d2, s1, hne, c.2.1, by omega, fun p hp => k.tup r RDs.nil hp⟩))))
      · cases q
    · rename_i i
      split at q
      · rename_i c
        cases q
        have d1' := d1
        unfold RD at d1'
        obtain ⟨a, rfl, k1⟩ := d1'
        have hne : i.map V.int ≠ [] := fun z => c.1 (List.map_eq_nil_iff.mp z)
        by_cases h2 : 2 ≤ j
        · refine .inr (.inr (.inr (.inr (.inr ⟨a, j, _, rfl, rd_int.mp d2, k1.sqT, hne, h2, c.2.2.1, by rw [List.length_map]; exact c.2.2.2, fun p o hp ho => ?_⟩))))
          have e : (List.replicate j.toNat (i.map V.int)).flatten = ((List.replicate j.toNat i).flatten).map V.int := by rw [List.map_flatten, List.map_replicate]
          rw [e]
          exact k.ktp r hp ho
        · have e1 : j = 1 := by omega
          subst e1
          exact .inr (.inr (.inr (.inl ⟨a, _, rfl, rd_int.mp d2, k1.sqT, k.same r (by simpa using d1)⟩)))
      · cases q
    · exact absurd ⟨_, rfl⟩ ds
    · split at q
      · rename_i i h1
        split at q
        · rename_i c
          obtain ⟨a, xs, rfl, s1, q1⟩ := r.lstOf d1 h1
          exact .inr (.inr (.inl ⟨a, j, xs, rfl, rd_int.mp d2, s1, c.1, c.2.1, by rw [← q1.length]; exact lineOk_le c.2.2, fun p hp => k.lst q r (q1.rep _) hp⟩))
        · cases q
      · cases q
  · cases q
theorem op_none {f : Value → Value → Sem Value} : OpR X f (rD X.K fun _ _ _ => none) := fun _ _ _ _ _ _ _ _ _ _ _ _ ⟨_, _, _, _, _, _, _, _, _, q, _⟩ => nomatch q
theorem op_bin (op : Operator) (live : Bool) : OpR X (binaryOp op) (rD X.K (binop op live)) := by
  cases op
  case Add => exact op_addD
  case Sub => exact op_int20 op_sub
  case Mult => exact op_mulD
  case FloorDiv => exact op_int2 op_fdivW fun i j h => (of_decide_eq_true h : 0 < j ∧ j.natAbs.log2 < 9000)
  case Mod => exact op_int2 op_mod fun i j h => of_decide_eq_true h
  case Pow => exact op_int2 op_pow fun i j h => (of_decide_eq_true h : 0 ≤ j ∧ j ≤ 1000000 ∧ i.natAbs < 2 ^ 64)
  case LShift => exact op_int2 op_shl fun i j h => (of_decide_eq_true h : 0 ≤ j ∧ j ≤ 1000000 ∧ i.natAbs < 2 ^ 64)
  case RShift => exact op_int2 op_shr fun i j h => of_decide_eq_true h
  case BitAnd => exact op_int20 op_and
  all_goals exact op_none
theorem un_negD : UnR X (unaryOp .USub) (rD1 X.K negD) :=
  UnR.imp un_neg fun x H Q ⟨Fr, ρ, h, d, r, d1, p, q, k⟩ => by
    unfold negD at q
    split at q
    · cases q; exact ⟨_, rd_int.mp d1, k.same r (rd_int.mpr rfl)⟩
    · cases q

/-! ### data as trees -/
section
variable {K : PySem.W.Frag} {Fr ρ : List Addr} {H : Hp} {h : Hq}
theorem dp_ints {K : PySem.W.Frag} {H : Hp} : ∀ ns : List Int, DpAll K H (ns.map V.int) (ns.map PyData.int)
  | [] => .nil
  | n :: ns => .cons (.int n) (dp_ints ns)
mutual
theorem RD.dp : ∀ (d : D) (p : PyData) (v : V), D.py d = some p → RD K Fr ρ H d v → Dp K H v p
  | .non, _, _, e, r => by unfold D.py at e; cases e; unfold RD at r; subst r; exact .non
  | .bl _, _, _, e, r => by unfold D.py at e; cases e; unfold RD at r; subst r; exact .bl _
  | .int _, _, _, e, r => by unfold D.py at e; cases e; unfold RD at r; subst r; exact .int _
  | .str _, _, _, e, r => by unfold D.py at e; cases e; unfold RD at r; subst r; exact .str _
  | .tup ds, _, _, e, r => by
    unfold D.py at e
    obtain ⟨ps, e1, rfl⟩ := Option.map_eq_some_iff.mp e
    obtain ⟨a, vs, rfl, s, q⟩ := r.sqT
    exact .tup s (RDs.dps ds ps vs e1 q)
  | .lst ds, _, _, e, r => by
    unfold D.py at e
    obtain ⟨ps, e1, rfl⟩ := Option.map_eq_some_iff.mp e
    obtain ⟨a, vs, rfl, s, q⟩ := r.sqL
    exact .lst (.of s) (RDs.dps ds ps vs e1 q)
  | .scr _, _, _, e, _ => by unfold D.py at e; cases e
  | .ktp ns, _, _, e, r => by
    unfold D.py at e; cases e
    unfold RD at r
    obtain ⟨a, rfl, k⟩ := r
    exact .tup k.sqT (dp_ints ns)
  | .kpp ps, _, _, e, r => by
    unfold D.py at e; cases e
    unfold RD at r
    obtain ⟨a, rfl, o, qs, k, d, n, q⟩ := r
    refine .tup (.inl (.inr ⟨o, k⟩)) ?_
    clear k
    induction q with
    | nil => exact .nil
    | @cons q p qs ps h t ih => exact .cons (.tup (.of h.1) (dp_ints [p.1, p.2])) ih
  | .ref _, _, _, e, _ => by unfold D.py at e; cases e
  | .dct _, _, _, e, _ => by unfold D.py at e; cases e
  | .exn _ _, _, _, e, _ => by unfold D.py at e; cases e
theorem RDs.dps : ∀ (ds : List D) (ps : List PyData) (vs : List V), D.pys ds = some ps → RDs K Fr ρ H ds vs → DpAll K H vs ps
  | [], _, _, e, r => by unfold D.pys at e; cases e; unfold RDs at r; subst r; exact .nil
  | d :: ds, _, _, e, r => by
    unfold D.pys at e
    split at e
    · rename_i a b e1 e2
      cases e
      unfold RDs at r
      obtain ⟨v, t, rfl, k, q⟩ := r
      exact .cons (RD.dp d _ _ e1 k) (RDs.dps ds _ _ e2 q)
    · cases e
end
def Melts (K : PySem.W.Frag) (Fr ρ : List Addr) (H : Hp) (g : List D → Option (List D)) : Prop := ∀ ds ds' ps vs, g ds = some ds' → D.pys ds' = some ps → RDs K Fr ρ H ds vs → DpAll K H vs ps
mutual
theorem melt_dp (r0 : HR K Fr ρ h H) {g : List D → Option (List D)} (hg : Melts K Fr ρ H g) : ∀ (d d' : D) (p : PyData) (v : V), D.melt g h d = some d' → D.py d' = some p → RD K Fr ρ H d v → Dp K H v p
  | .non, _, _, _, m, e, r => by unfold D.melt at m; cases m; exact RD.dp _ _ _ e r
  | .bl _, _, _, _, m, e, r => by unfold D.melt at m; cases m; exact RD.dp _ _ _ e r
  | .int _, _, _, _, m, e, r => by unfold D.melt at m; cases m; exact RD.dp _ _ _ e r
  | .str _, _, _, _, m, e, r => by unfold D.melt at m; cases m; exact RD.dp _ _ _ e r
  | .scr _, _, _, _, m, e, r => by unfold D.melt at m; cases m; exact RD.dp _ _ _ e r
  | .ktp _, _, _, _, m, e, r => by unfold D.melt at m; cases m; exact RD.dp _ _ _ e r
  | .kpp _, _, _, _, m, e, r => by unfold D.melt at m; cases m; exact RD.dp _ _ _ e r
  | .tup ds, _, _, _, m, e, r => by
    unfold D.melt at m
    obtain ⟨es, e1, rfl⟩ := Option.map_eq_some_iff.mp m
    unfold D.py at e
    obtain ⟨ps, e2, rfl⟩ := Option.map_eq_some_iff.mp e
    obtain ⟨a, vs, rfl, s, q⟩ := r.sqT
    exact .tup s (melts_dp r0 hg ds es ps vs e1 e2 q)
  | .lst ds, _, _, _, m, e, r => by
    unfold D.melt at m
    obtain ⟨es, e1, rfl⟩ := Option.map_eq_some_iff.mp m
    unfold D.py at e
    obtain ⟨ps, e2, rfl⟩ := Option.map_eq_some_iff.mp e
    obtain ⟨a, vs, rfl, s, q⟩ := r.sqL
    exact .lst (.of s) (melts_dp r0 hg ds es ps vs e1 e2 q)
  | .ref n, _, _, _, m, e, r => by
    unfold D.melt at m
    split at m
    · rename_i ds hn
      obtain ⟨es, e1, rfl⟩ := Option.map_eq_some_iff.mp m
      unfold D.py at e
      obtain ⟨ps, e2, rfl⟩ := Option.map_eq_some_iff.mp e
      obtain ⟨a, vs, rfl, _, s, q⟩ := r0.lst r hn
      exact .lst (.of s) (hg ds es ps vs e1 e2 q)
    · cases m
  | .dct _, _, _, _, m, e, _ => by
    unfold D.melt at m
    obtain ⟨es, _, rfl⟩ := Option.map_eq_some_iff.mp m
    unfold D.py at e
    cases e
  | .exn _ _, _, _, _, m, e, _ => by
    unfold D.melt at m
    obtain ⟨es, _, rfl⟩ := Option.map_eq_some_iff.mp m
    unfold D.py at e
    cases e
theorem melts_dp (r0 : HR K Fr ρ h H) {g : List D → Option (List D)} (hg : Melts K Fr ρ H g) : ∀ (ds ds' : List D) (ps : List PyData) (vs : List V), D.melts g h ds = some ds' → D.pys ds' = some ps → RDs K Fr ρ H ds vs → DpAll K H vs ps
  | [], _, _, _, m, e, r => by unfold D.melts at m; cases m; exact RDs.dps _ _ _ e r
  | d :: ds, _, _, _, m, e, r => by
    unfold D.melts at m
    split at m
    · rename_i a b e1 e2
      cases m
      unfold D.pys at e
      split at e
      · rename_i a b e3 e4
        cases e
        unfold RDs at r
        obtain ⟨v, t, rfl, k, q⟩ := r
        exact .cons (melt_dp r0 hg d _ _ _ e1 e3 k) (melts_dp r0 hg ds _ _ _ e2 e4 q)
      · cases e
    · cases m
end
theorem meltN_dp (r0 : HR K Fr ρ h H) : ∀ k, Melts K Fr ρ H (meltN h k)
  | 0 => fun ds ds' ps vs m e r => by
    unfold meltN at m
    split at m
    · cases m; exact RDs.dps _ _ _ e r
    · cases m
  | k + 1 => fun ds ds' ps vs m e r => melts_dp r0 (meltN_dp r0 k) ds ds' ps vs m e r
theorem HR.dp (r0 : HR K Fr ρ h H) {d : D} {p : PyData} {v : V} (e : pyOf h d = some p) (r : RD K Fr ρ H d v) : Dp K H v p := by
  unfold pyOf melt1 at e
  split at e
  · rename_i x hx
    have e : D.py x = some p := e
    have q := meltN_dp r0 3 [d] [x] [p] [v] hx (by simp [D.pys, e]) (.cons r .nil)
    cases q with
    | cons a _ => exact a
  · cases e
end

/-! ### comparisons -/
theorem op_intC {f : Value → Value → Sem Value} {g : Int → Int → Bool} (o : OpR X f (rI0 fun i j => .bl (g i j))) : OpR X f (rD X.K (intC g)) :=
  OpR.imp o fun x y H Q ⟨Fr, ρ, h, d, e, r, d1, d2, p, q, k⟩ => by
    unfold intC at q
    split at q
    · cases q
      exact ⟨_, _, rd_int.mp d1, rd_int.mp d2, k.same r (rd_bl.mpr rfl)⟩
    · cases q
theorem ofO_some {α : Type} {h : Hq} {o : Option α} {p : α × Hq} (e : ofO h o = some p) : o = some p.1 ∧ p.2 = h := by
  cases o with
  | none => cases e
  | some a => cases e; exact ⟨rfl, rfl⟩
section
variable {K : PySem.W.Frag} {Fr ρ : List Addr} {H : Hp} {h : Hq}
theorem scal_of {d e : D} {x y : V} {b : Bool} (s : scalEq d e = some b) (r1 : RD K Fr ρ H d x) (r2 : RD K Fr ρ H e y) : scal x y = true ∧ decide (x = y) = b := by
  unfold scalEq at s
  split at s
  · cases s; rw [rd_non.mp r1, rd_non.mp r2]; exact ⟨rfl, by simp⟩
  · cases s; rw [rd_int.mp r1, rd_int.mp r2]; exact ⟨rfl, dec_int⟩
  · cases s; rw [rd_str.mp r1, rd_str.mp r2]; exact ⟨rfl, dec_str⟩
  · cases s; rw [rd_bl.mp r1, rd_bl.mp r2]; exact ⟨rfl, dec_bl⟩
  · cases s
theorem isEmpty_len {α β : Type} {a : List α} {b : List β} (h : a.length = b.length) : b.isEmpty = a.isEmpty := by
  cases a <;> cases b <;> simp_all
theorem eq_of (r0 : HR K Fr ρ h H) {d e : D} {x y : V} {b : Bool} (s : eqD h d e = some b) (r1 : RD K Fr ρ H d x) (r2 : RD K Fr ρ H e y) :
    ((scal x y = true ∧ decide (x = y) = b) ∨ ∃ p q, Dp K H x p ∧ Dp K H y q ∧ SeqAt.shaped p = true ∧ SeqAt.shaped q = true ∧ PyData.eqv p q = b) ∨
    (∃ i j xs, x = .ref i ∧ y = .ref j ∧ SqL K H i xs ∧ SqL K H j [] ∧ xs.isEmpty = b) ∨ ∃ i j xs, x = .ref i ∧ y = .ref j ∧ SqT K H i xs ∧ SqT K H j [] ∧ xs.isEmpty = b := by
  unfold eqD at s
  split at s
  · rename_i c hc
    cases s
    exact .inl (.inl (scal_of hc r1 r2))
  · split at s
    · rename_i p q hp hq
      unfold eqPy at s
      split at s
      · rename_i c
        cases s
        rw [Bool.and_eq_true] at c
        exact .inl (.inr ⟨p, q, r0.dp hp r1, r0.dp hq r2, c.1, c.2, rfl⟩)
      · cases s
    · unfold eqNil at s
      split at s
      · rename_i ds e1 e2
        cases s
        obtain ⟨i, xs, rfl, k1, q1⟩ := r0.lstOf r1 e1
        obtain ⟨j, ys, rfl, k2, q2⟩ := r0.lstOf r2 e2
        unfold RDs at q2
        subst q2
        refine .inr (.inl ⟨i, j, xs, rfl, rfl, .of k1, .of k2, ?_⟩)
        have := q1.length
        cases ds <;> cases xs <;> simp_all
      · split at s
        · rename_i ds
          cases s
          obtain ⟨i, xs, rfl, k1, q1⟩ := r1.sqT
          obtain ⟨j, ys, rfl, k2, q2⟩ := r2.sqT
          unfold RDs at q2
          subst q2
          refine .inr (.inr ⟨i, j, xs, rfl, rfl, k1, k2, ?_⟩)
          exact isEmpty_len q1.length
        · cases s
end
/-- a list beside the empty one -/
def rEq0 (K : PySem.W.Frag) (g : Bool → Bool) : R2 := fun x y H Q => ∃ i j xs, x = V.ref i ∧ y = V.ref j ∧ SqL K H i xs ∧ SqL K H j [] ∧ Q (.bl (g xs.isEmpty)) H
theorem op_eqN (hu : X.A.units + 64 < cLine) : OpR X (compareOp .Eq) (rEq0 X.K fun b => b) := by
  intro pins s σ H x y v u Q I rx ry ⟨a, b, xs, e1, e2, sa, sb, q⟩
  subst e1 e2
  obtain rfl : v = Value.ref a := rx
  obtain rfl : u = Value.ref b := ry
  obtain ⟨its, rv, hl, _⟩ := I.list sa
  obtain ⟨jts, rw', hm, _⟩ := I.list sb
  have ej : jts = [] := by cases rw'; rfl
  subst ej
  cases xs with
  | nil =>
    have ei : its = [] := by cases rv; rfl
    subst ei
    exact SeqAt.RcAt.lists (e := fun _ => true) hl.isList hm.isList rfl (by omega) (fun j h1 => absurd h1 (by simp)) X.prog X.w _ _ ⟨.bl _, H, I, rfl, q⟩
  | cons x0 xs =>
    have : its.length = xs.length + 1 := by have := rv.length; simpa using this.symm
    exact SeqAt.RcAt.lists_lengths hl.isList hm.isList (by simp [this]) (by omega) X.prog X.w _ _ ⟨.bl _, H, I, rfl, q⟩
theorem op_neN (hu : X.A.units + 64 < cLine) : OpR X (compareOp .NotEq) (rEq0 X.K fun b => !b) := by
  intro pins s σ H x y v u Q I rx ry ⟨a, b, xs, e1, e2, sa, sb, q⟩
  subst e1 e2
  obtain rfl : v = Value.ref a := rx
  obtain rfl : u = Value.ref b := ry
  obtain ⟨its, rv, hl, _⟩ := I.list sa
  obtain ⟨jts, rw', hm, _⟩ := I.list sb
  have ej : jts = [] := by cases rw'; rfl
  subst ej
  cases xs with
  | nil =>
    have ei : its = [] := by cases rv; rfl
    subst ei
    exact SeqAt.RcNeAt.lists (e := fun _ => true) hl.isList hm.isList rfl (by omega) (fun j h1 => absurd h1 (by simp)) X.prog X.w _ _ ⟨.bl _, H, I, rfl, q⟩
  | cons x0 xs =>
    have : its.length = xs.length + 1 := by have := rv.length; simpa using this.symm
    exact SeqAt.RcNeAt.lists_lengths hl.isList hm.isList (by simp [this]) (by omega) X.prog X.w _ _ ⟨.bl _, H, I, rfl, q⟩
/-- a tuple beside the empty one -/
def rEq0T (K : PySem.W.Frag) (g : Bool → Bool) : R2 := fun x y H Q => ∃ i j xs, x = V.ref i ∧ y = V.ref j ∧ SqT K H i xs ∧ SqT K H j [] ∧ Q (.bl (g xs.isEmpty)) H
theorem op_eqNT (hu : X.A.units + 64 < cLine) : OpR X (compareOp .Eq) (rEq0T X.K fun b => b) := by
  intro pins s σ H x y v u Q I rx ry ⟨a, b, xs, e1, e2, sa, sb, q⟩
  subst e1 e2
  obtain rfl : v = Value.ref a := rx
  obtain rfl : u = Value.ref b := ry
  obtain ⟨its, rv, hl, _⟩ := I.tuple sa
  obtain ⟨jts, rw', hm, _⟩ := I.tuple sb
  have ej : jts = [] := by cases rw'; rfl
  subst ej
  have key := SeqAt.RcAt.tuples (A := X.A) (s := s) (e := fun _ => true) hl hm (by omega) (fun j _ h2 => absurd h2 (by simp))
  have e : ((List.range (min its.toArray.size ([] : List Value).toArray.size)).all (fun _ => true) && its.toArray.size == ([] : List Value).toArray.size) = xs.isEmpty := by
    have := rv.length
    cases xs with
    | nil =>
      have ei : its = [] := by cases rv; rfl
      subst ei; rfl
    | cons x0 xs =>
      have : its.length = xs.length + 1 := by simpa using this.symm
      have k : (its.toArray.size == ([] : List Value).toArray.size) = false := by simp [this]
      rw [k, Bool.and_false]; rfl
  rw [e] at key
  exact key X.prog X.w _ _ ⟨.bl _, H, I, rfl, q⟩
theorem op_neNT (hu : X.A.units + 64 < cLine) : OpR X (compareOp .NotEq) (rEq0T X.K fun b => !b) := by
  intro pins s σ H x y v u Q I rx ry ⟨a, b, xs, e1, e2, sa, sb, q⟩
  subst e1 e2
  obtain rfl : v = Value.ref a := rx
  obtain rfl : u = Value.ref b := ry
  obtain ⟨its, rv, hl, _⟩ := I.tuple sa
  obtain ⟨jts, rw', hm, _⟩ := I.tuple sb
  have ej : jts = [] := by cases rw'; rfl
  subst ej
  have key := SeqAt.RcNeAt.tuples (A := X.A) (s := s) (e := fun _ => true) hl hm (by omega) (fun j _ h2 => absurd h2 (by simp))
  have e : ((List.range (min its.toArray.size ([] : List Value).toArray.size)).all (fun _ => true) && its.toArray.size == ([] : List Value).toArray.size) = xs.isEmpty := by
    have := rv.length
    cases xs with
    | nil =>
      have ei : its = [] := by cases rv; rfl
      subst ei; rfl
    | cons x0 xs =>
      have : its.length = xs.length + 1 := by simpa using this.symm
      have k : (its.toArray.size == ([] : List Value).toArray.size) = false := by simp [this]
      rw [k, Bool.and_false]; rfl
  rw [e] at key
  exact key X.prog X.w _ _ ⟨.bl _, H, I, rfl, q⟩
theorem op_eqE (hu : X.A.units + 64 < cLine) : OpR X (compareOp .Eq) (rD X.K (cmpop .Eq)) := by
  refine OpR.imp ((op_eq.or (op_eqD hu)).or ((op_eqN hu).or (op_eqNT hu))) fun x y H Q ⟨Fr, ρ, h, d, e, r, d1, d2, p, q, k⟩ => ?_
  obtain ⟨q1, q2⟩ := ofO_some (show ofO h ((eqD h d e).map D.bl) = some p from q)
  obtain ⟨b, e1, e2⟩ := Option.map_eq_some_iff.mp q1
  obtain ⟨p1, p2⟩ := p
  dsimp only at q2 e2
  subst q2 e2
  rcases eq_of r e1 d1 d2 with (⟨s, e3⟩ | ⟨u, w, a1, a2, a3, a4, e3⟩) | ⟨i, j, xs, a1, a2, a3, a4, e3⟩ | ⟨i, j, xs, a1, a2, a3, a4, e3⟩
  · exact .inl (.inl ⟨s, by rw [e3]; exact k.same r (rd_bl.mpr rfl)⟩)
  · exact .inl (.inr ⟨u, w, a1, a2, a3, a4, by rw [e3]; exact k.same r (rd_bl.mpr rfl)⟩)
  · exact .inr (.inl ⟨i, j, xs, a1, a2, a3, a4, by rw [e3]; exact k.same r (rd_bl.mpr rfl)⟩)
  · exact .inr (.inr ⟨i, j, xs, a1, a2, a3, a4, by rw [e3]; exact k.same r (rd_bl.mpr rfl)⟩)
theorem op_neE (hu : X.A.units + 64 < cLine) : OpR X (compareOp .NotEq) (rD X.K (cmpop .NotEq)) := by
  refine OpR.imp ((op_ne.or (op_neD hu)).or ((op_neN hu).or (op_neNT hu))) fun x y H Q ⟨Fr, ρ, h, d, e, r, d1, d2, p, q, k⟩ => ?_
  obtain ⟨q1, q2⟩ := ofO_some (show ofO h ((eqD h d e).map fun b => D.bl (!b)) = some p from q)
  obtain ⟨b, e1, e2⟩ := Option.map_eq_some_iff.mp q1
  obtain ⟨p1, p2⟩ := p
  dsimp only at q2 e2
  subst q2 e2
  rcases eq_of r e1 d1 d2 with (⟨s, e3⟩ | ⟨u, w, a1, a2, a3, a4, e3⟩) | ⟨i, j, xs, a1, a2, a3, a4, e3⟩ | ⟨i, j, xs, a1, a2, a3, a4, e3⟩
  · exact .inl (.inl ⟨s, by rw [e3]; exact k.same r (rd_bl.mpr rfl)⟩)
  · exact .inl (.inr ⟨u, w, a1, a2, a3, a4, by rw [e3]; exact k.same r (rd_bl.mpr rfl)⟩)
  · exact .inr (.inl ⟨i, j, xs, a1, a2, a3, a4, by rw [e3]; exact k.same r (rd_bl.mpr rfl)⟩)
  · exact .inr (.inr ⟨i, j, xs, a1, a2, a3, a4, by rw [e3]; exact k.same r (rd_bl.mpr rfl)⟩)
end
end FF

/-! FFSE2: comparisons, subscripts, slices. -/
namespace FF
open PySem PySem.Spec PyProof.Rows L2

section
variable {K : PySem.W.Frag} {Fr ρ : List Addr} {H : Hp} {h : Hq}
theorem kv_of_key {d : D} {k : Key} {v : V} (e : keyOf d = some k) (r : RD K Fr ρ H d v) : v = kV k := by
  unfold keyOf at e
  split at e
  · cases e; exact rd_int.mp r
  · cases e; exact rd_str.mp r
  · cases e
theorem kvs_of_keys : ∀ {ds : List D} {ks : List Key} {vs : List V}, keysOf ds = some ks → RDs K Fr ρ H ds vs → vs = ks.map kV
  | [], _, _, e, r => by unfold keysOf at e; cases e; unfold RDs at r; exact r
  | d :: ds, _, _, e, r => by
    unfold keysOf at e
    split at e
    · rename_i k ks e1 e2
      cases e
      unfold RDs at r
      obtain ⟨v, t, rfl, a, b⟩ := r
      rw [kv_of_key e1 a, kvs_of_keys e2 b]; rfl
    · cases e
section
variable {κ : Type} [DecidableEq κ]
theorem KR.nil : KR K Fr ρ H ([] : List (κ × D)) [] := ⟨rfl, RDs.nil⟩
theorem KR.cases {p : κ × D} {kvs : List (κ × D)} {vs : List (κ × V)} (r : KR K Fr ρ H (p :: kvs) vs) : ∃ v t, vs = (p.1, v) :: t ∧ RD K Fr ρ H p.2 v ∧ KR K Fr ρ H kvs t := by
  obtain ⟨e, q⟩ := r
  cases vs with
  | nil => simp at e
  | cons a t =>
    simp only [List.map_cons, List.cons.injEq] at e
    rw [List.map_cons, List.map_cons] at q
    unfold RDs at q
    obtain ⟨v, t', e2, a1, b1⟩ := q
    simp only [List.cons.injEq] at e2
    obtain ⟨e2, e3⟩ := e2
    subst e3
    refine ⟨a.2, t, ?_, by rw [e2]; exact a1, e.2, b1⟩
    rw [e.1]
theorem KR.cons {k : κ} {d : D} {v : V} {kvs : List (κ × D)} {vs : List (κ × V)} (a : RD K Fr ρ H d v) (b : KR K Fr ρ H kvs vs) : KR K Fr ρ H ((k, d) :: kvs) ((k, v) :: vs) :=
  ⟨by simp [b.1], by rw [List.map_cons, List.map_cons]; exact .cons a b.2⟩
theorem KR.length {kvs : List (κ × D)} {vs : List (κ × V)} (r : KR K Fr ρ H kvs vs) : kvs.length = vs.length := by
  have := congrArg List.length r.1; simpa using this
theorem KR.get {k : κ} : ∀ {kvs : List (κ × D)} {vs : List (κ × V)}, KR K Fr ρ H kvs vs → (kget kvs k = none ∧ valV vs k = none) ∨ ∃ d v, kget kvs k = some d ∧ valV vs k = some v ∧ RD K Fr ρ H d v
  | [], vs, r => by
    have := r.length
    cases vs with
    | nil => exact .inl ⟨rfl, rfl⟩
    | cons _ _ => simp at this
  | p :: kvs, vs, r => by
    obtain ⟨v, t, rfl, a, b⟩ := r.cases
    by_cases e : p.1 = k
    · exact .inr ⟨p.2, v, by simp [kget, e], by simp [valV, e], a⟩
    · have e1 : kget (p :: kvs) k = kget kvs k := by simp [kget, List.find?_cons, e]
      have e2 : valV ((p.1, v) :: t) k = valV t k := by simp [valV, List.find?_cons, e]
      rw [e1, e2]
      exact KR.get b
theorem KR.isSome {k : κ} {kvs : List (κ × D)} {vs : List (κ × V)} (r : KR K Fr ρ H kvs vs) : (valV vs k).isSome = (kget kvs k).isSome := by
  rcases r.get (k := k) with ⟨a, b⟩ | ⟨d, v, a, b, _⟩ <;> rw [a, b] <;> rfl
theorem KR.app {kvs : List (κ × D)} {vs : List (κ × V)} {k : κ} {d : D} {v : V} (r : KR K Fr ρ H kvs vs) (a : RD K Fr ρ H d v) : KR K Fr ρ H (kvs ++ [(k, d)]) (vs ++ [(k, v)]) :=
  ⟨by simp [r.1], by rw [List.map_append, List.map_append]; exact r.2.append (.cons a .nil)⟩
theorem KR.repl {k : κ} {d : D} {v : V} (a : RD K Fr ρ H d v) : ∀ {kvs : List (κ × D)} {vs : List (κ × V)}, KR K Fr ρ H kvs vs →
    KR K Fr ρ H (kvs.map fun kv => if kv.1 = k then (kv.1, d) else kv) (vs.map fun kv => if kv.1 = k then (kv.1, v) else kv)
  | [], vs, r => by
    have := r.length
    cases vs with
    | nil => exact .nil
    | cons _ _ => simp at this
  | p :: kvs, vs, r => by
    obtain ⟨w, t, rfl, a1, b⟩ := r.cases
    rw [List.map_cons, List.map_cons]
    by_cases e : p.1 = k
    · rw [if_pos e, if_pos e]; exact .cons a (KR.repl a b)
    · rw [if_neg e, if_neg e]; exact KR.cons (k := p.1) a1 (KR.repl a b)
theorem KR.anyKey {k : κ} {kvs : List (κ × D)} {vs : List (κ × V)} (r : KR K Fr ρ H kvs vs) : (vs.any fun kv => decide (kv.1 = k)) = kvs.any fun kv => decide (kv.1 = k) := by
  have e1 : (vs.any fun kv => decide (kv.1 = k)) = (vs.map (·.1)).any fun x => decide (x = k) := by rw [List.any_map]; rfl
  have e2 : (kvs.any fun kv => decide (kv.1 = k)) = (kvs.map (·.1)).any fun x => decide (x = k) := by rw [List.any_map]; rfl
  rw [e1, e2, r.1]
theorem KR.put {k : κ} {d : D} {v : V} {kvs : List (κ × D)} {vs : List (κ × V)} (r : KR K Fr ρ H kvs vs) (a : RD K Fr ρ H d v) : KR K Fr ρ H (kput kvs k d) (putK vs k v) := by
  unfold kput putK
  rw [r.anyKey]
  split
  · exact r.repl a
  · exact r.app a
theorem KR.drop {k : κ} : ∀ {kvs : List (κ × D)} {vs : List (κ × V)}, KR K Fr ρ H kvs vs → KR K Fr ρ H (kdrop kvs k) (dropK vs k)
  | [], vs, r => by
    have := r.length
    cases vs with
    | nil => exact .nil
    | cons _ _ => simp at this
  | p :: kvs, vs, r => by
    obtain ⟨w, t, rfl, a1, b⟩ := r.cases
    unfold kdrop dropK
    rw [List.filter_cons, List.filter_cons]
    have ih : KR K Fr ρ H (kdrop kvs k) (dropK t k) := KR.drop b
    unfold kdrop dropK at ih
    by_cases e : p.1 = k
    · simp only [e, ne_eq, not_true_eq_false, decide_false, Bool.false_eq_true, if_false]; exact ih
    · simp only [ne_eq, e, not_false_eq_true, decide_true, if_true]; exact KR.cons (k := p.1) a1 ih
end

/-! ### flat things in a sequence -/
theorem flat_of {d : D} {v : V} (r : RD K Fr ρ H d v) (f : flatD d = true) : flatV v = true := by
  cases d <;> first | (cases f; done) | skip
  · rw [rd_non.mp r]; rfl
  · rw [rd_bl.mp r]; rfl
  · rw [rd_int.mp r]; rfl
  · rw [rd_str.mp r]; rfl
theorem eqFl_of {d e : D} {x y : V} (r1 : RD K Fr ρ H d x) (r2 : RD K Fr ρ H e y) (f1 : flatD d = true) (f2 : flatD e = true) : eqV x y = eqFl d e := by
  cases d <;> first | (cases f1; done) | skip
  all_goals (cases e <;> first | (cases f2; done) | skip)
  all_goals (simp only [rd_non, rd_bl, rd_int, rd_str] at r1 r2; subst r1 r2; rfl)
theorem flats_of : ∀ {ds : List D} {vs : List V}, RDs K Fr ρ H ds vs → ds.all flatD = true → vs.all flatV = true
  | [], _, r, _ => by unfold RDs at r; subst r; rfl
  | d :: ds, _, r, f => by
    unfold RDs at r
    obtain ⟨v, t, rfl, a, b⟩ := r
    rw [List.all_cons, Bool.and_eq_true] at f ⊢
    exact ⟨flat_of a f.1, flats_of b f.2⟩
theorem anyFl_of {d : D} {x : V} (r : RD K Fr ρ H d x) (f : flatD d = true) : ∀ {ds : List D} {vs : List V}, RDs K Fr ρ H ds vs → ds.all flatD = true → inV x vs = ds.any fun e => eqFl e d
  | [], _, r, _ => by unfold RDs at r; subst r; rfl
  | e :: ds, _, q, g => by
    unfold RDs at q
    obtain ⟨v, t, rfl, a, b⟩ := q
    rw [List.all_cons, Bool.and_eq_true] at g
    unfold inV
    rw [List.any_cons, List.any_cons, eqFl_of a r g.1 f]
    have := anyFl_of r f b g.2
    unfold inV at this
    rw [this]
end

section
variable {X : Cx}
/-- y in a dict, as an operator -/
def rDIn (neg : Bool) : R2 := fun y x H Q => ∃ a o, x = .ref a ∧ DGet H a y o ∧ Q (.bl (if neg then !o.isSome else o.isSome)) H
theorem op_dIn (hu : X.A.units + 1 < cLine) : OpR X (compareOp .In) (rDIn false) := by
  intro pins s σ H x y v u Q I rx ry hq
  obtain ⟨a, o, rfl, g, q⟩ := hq
  cases ry
  exact d_in hu I g rx fun s' I' => ⟨.bl _, H, I', rfl, q⟩
theorem op_dNotIn (hu : X.A.units + 1 < cLine) : OpR X (compareOp .NotIn) (rDIn true) := by
  intro pins s σ H x y v u Q I rx ry hq
  obtain ⟨a, o, rfl, g, q⟩ := hq
  cases ry
  exact d_notIn hu I g rx fun s' I' => ⟨.bl _, H, I', rfl, q⟩
section
variable {K : PySem.W.Frag} {Fr ρ : List Addr} {H : Hp} {h : Hq}
theorem in_of (r0 : HR K Fr ρ h H) {d e : D} {x y : V} {b : Bool} (s : inD h d e = some b) (r1 : RD K Fr ρ H d x) (r2 : RD K Fr ρ H e y) :
    (∃ i j, x = .str i ∧ y = .str j ∧ (!(Builtin.Str.occurrences j i 0 j.length 1).isEmpty) = b) ∨
    (∃ p xs, y = .ref p ∧ (SqL K H p xs ∨ SqT K H p xs) ∧ flatV x = true ∧ xs.all flatV = true ∧ inV x xs = b) ∨
    (∃ a o, y = .ref a ∧ DGet H a x o ∧ o.isSome = b) ∨
    (∃ d ps, Dp K H x d ∧ Dp K H y (.tuple ps) ∧ SeqAt.shaped d = true ∧ SeqAt.shaped (.tuple ps) = true ∧ d.depth ≤ 60 ∧ (ps.any fun z => PyData.eqv z d) = b) ∨
    ∃ d ps, Dp K H x d ∧ Dp K H y (.list ps) ∧ SeqAt.shaped d = true ∧ SeqAt.shaped (.list ps) = true ∧ (ps.any fun z => PyData.eqv z d) = b := by
  unfold inD at s
  split at s
  · split at s
    · cases s
      exact .inl ⟨_, _, rd_str.mp r1, rd_str.mp r2, rfl⟩
    · cases s
  · rename_i n
    split at s
    · rename_i kvs hn
      obtain ⟨k, e1, e2⟩ := Option.map_eq_some_iff.mp s
      obtain ⟨a, vs, rfl, _, e3, kr⟩ := r0.dct r2 hn
      refine .inr (.inr (.inl ⟨a, valV vs k, rfl, ?_, by rw [kr.isSome, e2]⟩))
      rw [kv_of_key e1 r1]
      exact .k e3
    · rename_i kvs hn
      split at s
      · rename_i ks
        obtain ⟨k, e1, e2⟩ := Option.map_eq_some_iff.mp s
        unfold RD at r2
        obtain ⟨a, rfl, ha⟩ := r2
        obtain ⟨b', hb, vs, e3, kr⟩ := r0.at' n _ hn
        rw [ha] at hb; cases hb
        obtain ⟨c, xs, rfl, e4, q⟩ := r1.tupl
        refine .inr (.inr (.inl ⟨a, valV vs k, rfl, ?_, by rw [kr.isSome, e2]⟩))
        rw [kvs_of_keys e1 q] at e4
        exact .t e3 e4
      · cases s
    · rename_i ds hn
      split at s
      · rename_i c
        cases s
        rw [Bool.and_eq_true] at c
        obtain ⟨a, vs, rfl, _, e3, q⟩ := r0.lst r2 hn
        exact .inr (.inl ⟨a, vs, rfl, .inl (.of e3), flat_of r1 c.1, flats_of q c.2, anyFl_of r1 c.1 q c.2⟩)
      · cases s
    · cases s
  · split at s
    · rename_i ds hd
      split at s
      · rename_i c
        cases s
        rw [Bool.and_eq_true] at c
        obtain ⟨a, vs, rfl, e3, q⟩ := r0.items r2 hd
        exact .inr (.inl ⟨a, vs, rfl, e3, flat_of r1 c.1, flats_of q c.2, anyFl_of r1 c.1 q c.2⟩)
      · split at s
        · rename_i d ps h1 h2
          split at s
          · rename_i c
            cases s
            rw [Bool.and_eq_true, Bool.and_eq_true, decide_eq_true_eq] at c
            exact .inr (.inr (.inr (.inl ⟨d, ps, r0.dp h1 r1, r0.dp h2 r2, c.1.1, c.1.2, c.2, rfl⟩)))
          · cases s
        · rename_i d ps h1 h2
          split at s
          · rename_i c
            cases s
            rw [Bool.and_eq_true] at c
            exact .inr (.inr (.inr (.inr ⟨d, ps, r0.dp h1 r1, r0.dp h2 r2, c.1, c.2, rfl⟩)))
          · cases s
        · cases s
    · cases s
end
def rInT (K : PySem.W.Frag) (g : Bool → Bool) : R2 := fun x y H Q => ∃ d ps, Dp K H x d ∧ Dp K H y (.tuple ps) ∧ SeqAt.shaped d = true ∧ SeqAt.shaped (.tuple ps) = true ∧ d.depth ≤ 60 ∧ Q (.bl (g (ps.any fun z => PyData.eqv z d))) H
theorem op_inT (hu : X.A.units + 64 < cLine) : OpR X (compareOp .In) (rInT X.K id) := by
  intro pins s σ H x y v u Q I rx ry h
  obtain ⟨d, ps, hd, he, sd, se, dl, q⟩ := h
  obtain ⟨as, r1⟩ := Dp.reads I d x v hd rx
  obtain ⟨bs, r2⟩ := Dp.reads I (.tuple ps) y u he ry
  exact SeqAt.in_tuple_reads r2 r1 (SeqAt.canLay_of_shaped se) (SeqAt.canLay_of_shaped sd) (by
    have : min (PyData.depthAll ps) d.depth ≤ d.depth := Nat.min_le_right _ _
    omega) ⟨.bl _, H, I, rfl, q⟩
theorem op_notInT (hu : X.A.units + 64 < cLine) : OpR X (compareOp .NotIn) (rInT X.K not) := by
  intro pins s σ H x y v u Q I rx ry h
  obtain ⟨d, ps, hd, he, sd, se, dl, q⟩ := h
  obtain ⟨as, r1⟩ := Dp.reads I d x v hd rx
  obtain ⟨bs, r2⟩ := Dp.reads I (.tuple ps) y u he ry
  exact SeqAt.notIn_tuple_reads r2 r1 (SeqAt.canLay_of_shaped se) (SeqAt.canLay_of_shaped sd) (by
    have : min (PyData.depthAll ps) d.depth ≤ d.depth := Nat.min_le_right _ _
    omega) ⟨.bl _, H, I, rfl, q⟩
theorem op_inD (hu : X.A.units + 65 < cLine) : OpR X (compareOp .In) (rD X.K (cmpop .In)) := by
  refine OpR.imp (op_in_str.or (op_in_seq.or ((op_dIn (by omega)).or ((op_inT (by omega)).or (L2.op_inD hu))))) fun x y H Q ⟨Fr, ρ, h, d, e, r, d1, d2, p, q, k⟩ => ?_
  obtain ⟨q1, q2⟩ := ofO_some (show ofO h ((inD h d e).map D.bl) = some p from q)
  obtain ⟨b, e1, e2⟩ := Option.map_eq_some_iff.mp q1
  obtain ⟨p1, p2⟩ := p
  dsimp only at q2 e2
  subst q2 e2
  rcases in_of r e1 d1 d2 with ⟨i, j, a1, a2, a3⟩ | ⟨p, xs, a1, a2, a3, a4, a5⟩ | ⟨a, o, a1, a2, a3⟩ | ⟨dd, ps, a1, a2, a3, a4, a5, a6⟩ | ⟨dd, ps, a1, a2, a3, a4, a5⟩
  · exact .inl ⟨i, j, a1, a2, by rw [a3]; exact k.same r (rd_bl.mpr rfl)⟩
  · exact .inr (.inl ⟨p, xs, a1, a2, a3, a4, by simp only [Bool.false_eq_true, if_false]; rw [a5]; exact k.same r (rd_bl.mpr rfl)⟩)
  · exact .inr (.inr (.inl ⟨a, o, a1, a2, by simp only [Bool.false_eq_true, if_false]; rw [a3]; exact k.same r (rd_bl.mpr rfl)⟩))
  · exact .inr (.inr (.inr (.inl ⟨dd, ps, a1, a2, a3, a4, a5, by rw [a6]; exact k.same r (rd_bl.mpr rfl)⟩)))
  · exact .inr (.inr (.inr (.inr ⟨dd, ps, a1, a2, a3, a4, by rw [a5]; exact k.same r (rd_bl.mpr rfl)⟩)))
theorem op_notInD (hu : X.A.units + 65 < cLine) : OpR X (compareOp .NotIn) (rD X.K (cmpop .NotIn)) := by
  refine OpR.imp (op_notin_str.or (op_notIn_seq.or ((op_dNotIn (by omega)).or ((op_notInT (by omega)).or (L2.op_notInD hu))))) fun x y H Q ⟨Fr, ρ, h, d, e, r, d1, d2, p, q, k⟩ => ?_
  obtain ⟨q1, q2⟩ := ofO_some (show ofO h ((inD h d e).map fun b => D.bl (!b)) = some p from q)
  obtain ⟨b, e1, e2⟩ := Option.map_eq_some_iff.mp q1
  obtain ⟨p1, p2⟩ := p
  dsimp only at q2 e2
  subst q2 e2
  rcases in_of r e1 d1 d2 with ⟨i, j, a1, a2, a3⟩ | ⟨p, xs, a1, a2, a3, a4, a5⟩ | ⟨a, o, a1, a2, a3⟩ | ⟨dd, ps, a1, a2, a3, a4, a5, a6⟩ | ⟨dd, ps, a1, a2, a3, a4, a5⟩
  · exact .inl ⟨i, j, a1, a2, by rw [a3]; exact k.same r (rd_bl.mpr rfl)⟩
  · exact .inr (.inl ⟨p, xs, a1, a2, a3, a4, by simp only [if_true]; rw [a5]; exact k.same r (rd_bl.mpr rfl)⟩)
  · exact .inr (.inr (.inl ⟨a, o, a1, a2, by simp only [if_true]; rw [a3]; exact k.same r (rd_bl.mpr rfl)⟩))
  · exact .inr (.inr (.inr (.inl ⟨dd, ps, a1, a2, a3, a4, a5, by rw [a6]; exact k.same r (rd_bl.mpr rfl)⟩)))
  · exact .inr (.inr (.inr (.inr ⟨dd, ps, a1, a2, a3, a4, by rw [a5]; exact k.same r (rd_bl.mpr rfl)⟩)))
theorem op_ltE (hu : X.A.units < cLine) : OpR X (compareOp .Lt) (rD X.K (cmpop .Lt)) := by
  refine OpR.imp (op_lt.or (op_ltT hu)) fun x y H Q ⟨Fr, ρ, h, d, e, r, d1, d2, p, q, k⟩ => ?_
  obtain ⟨q1, q2⟩ := ofO_some (show ofO h ((ltD d e).map D.bl) = some p from q)
  obtain ⟨b, e1, e2⟩ := Option.map_eq_some_iff.mp q1
  obtain ⟨p1, p2⟩ := p
  dsimp only at q2 e2
  subst q2 e2
  unfold ltD at e1
  split at e1
  · cases e1
    exact .inl ⟨_, _, rd_int.mp d1, rd_int.mp d2, k.same r (rd_bl.mpr rfl)⟩
  · split at e1
    · rename_i ns ms h1 h2
      cases e1
      obtain ⟨a, xs, rfl, s1, q1⟩ := d1.sqT
      obtain ⟨b, ys, rfl, s2, q2⟩ := d2.sqT
      rw [RDs.ints h1 q1] at s1
      rw [RDs.ints h2 q2] at s2
      exact .inr ⟨a, b, ns, ms, rfl, rfl, s1, s2, k.same r (rd_bl.mpr rfl)⟩
    · cases e1
  · cases e1
theorem isNon_of {K : PySem.W.Frag} {Fr ρ : List Addr} {H : Hp} {d : D} {x : V} (r : RD K Fr ρ H d x) : decide (x = .non) = isNon d := by
  cases d with
  | non => rw [rd_non.mp r]; rfl
  | bl b => rw [rd_bl.mp r]; rfl
  | int b => rw [rd_int.mp r]; rfl
  | str b => rw [rd_str.mp r]; rfl
  | tup ds => obtain ⟨a, _, rfl, _⟩ := r.tupl; rfl
  | lst ds => obtain ⟨a, _, rfl, _⟩ := r.sqL; rfl
  | scr ds => unfold RD at r; obtain ⟨a, rfl, _⟩ := r; rfl
  | ktp ds => unfold RD at r; obtain ⟨a, rfl, _⟩ := r; rfl
  | kpp ds => unfold RD at r; obtain ⟨a, rfl, _⟩ := r; rfl
  | ref ds => unfold RD at r; obtain ⟨a, rfl, _⟩ := r; rfl
  | dct _ => unfold RD at r; obtain ⟨a, _, rfl, _⟩ := r; rfl
  | exn _ _ => unfold RD at r; obtain ⟨_, ⟨a, _, _, _, rfl, _⟩, _⟩ := r; rfl
  | opq _ => unfold RD at r; obtain ⟨a, rfl, _⟩ := r; rfl
theorem op_cmp (hu : X.A.units + 65 < cLine) (op : CmpOp) : OpR X (compareOp op) (rD X.K (cmpop op)) := by
  cases op
  case Eq => exact op_eqE (by omega)
  case NotEq => exact op_neE (by omega)
  case Lt => exact op_ltE (by omega)
  case LtE => exact op_intC op_le
  case Gt => exact op_intC op_gt
  case GtE => exact op_intC op_ge
  case Is =>
    refine OpR.imp (op_isN.or op_isBl) fun x y H Q ⟨Fr, ρ, h, d, e, r, d1, d2, p, q, k⟩ => ?_
    have q : (if isNon e then some (D.bl (isNon d), h) else isBB id d e h) = some p := q
    split at q
    · rename_i hn
      cases q
      refine .inl ⟨of_decide_eq_true ((isNon_of d2).trans hn), ?_⟩
      rw [isNon_of d1]
      exact k.same r (rd_bl.mpr rfl)
    · unfold isBB at q
      split at q
      · cases q
        exact .inr ⟨_, _, rd_bl.mp d1, rd_bl.mp d2, k.same r (rd_bl.mpr rfl)⟩
      · cases q
  case IsNot =>
    refine OpR.imp (op_notN.or op_notBl) fun x y H Q ⟨Fr, ρ, h, d, e, r, d1, d2, p, q, k⟩ => ?_
    have q : (if isNon e then some (D.bl (!isNon d), h) else isBB not d e h) = some p := q
    split at q
    · rename_i hn
      cases q
      refine .inl ⟨of_decide_eq_true ((isNon_of d2).trans hn), ?_⟩
      rw [isNon_of d1]
      exact k.same r (rd_bl.mpr rfl)
    · unfold isBB at q
      split at q
      · cases q
        exact .inr ⟨_, _, rd_bl.mp d1, rd_bl.mp d2, k.same r (rd_bl.mpr rfl)⟩
      · cases q
  case In => exact op_inD (by omega)
  case NotIn => exact op_notInD (by omega)
end
end FF

/-! FFSE3: subscripts, slices, stores, built-ins by values. -/
namespace FF
open PySem PySem.Spec PyProof.Rows L2

section
variable {X : Cx}
theorem rds_at {K : PySem.W.Frag} {Fr ρ : List Addr} {H : Hp} {ds : List D} {vs : List V} {i : Int} {d : D} (r : RDs K Fr ρ H ds vs) (e : at? ds i = some d) : ∃ v, atI vs i = some v ∧ RD K Fr ρ H d v := by
  unfold at? atI at e
  obtain ⟨j, e1, e2⟩ := Option.bind_eq_some_iff.mp e
  obtain ⟨v, e3, q⟩ := r.get e2
  refine ⟨v, ?_, q⟩
  unfold atI
  rw [← r.length, e1]
  exact e3
/-- a subscript that is no dict's -/
def isDctRef (h : Hq) : D → Bool
  | .ref n => match h[n]? with | some (.dct _) => true | some (.dctT _) => true | _ => false
  | _ => false
theorem ix_plain : IxR X (rD X.K fun x i h => if isDctRef h x then none else ixD x i h) := by
  refine IxR.imp ix_seq fun x y H Q ⟨Fr, ρ, h, d, e, r, d1, d2, p, q, k⟩ => ?_
  dsimp only at q
  split at q
  · cases q
  · rename_i nd
    unfold ixD at q
    split at q
    · split at q
      · rename_i hl
        split at q
        · rename_i c hc
          cases q
          exact .inr (.inr ⟨_, _, c, rd_str.mp d1, rd_int.mp d2, lineOk_le hl, hc, k.same r (rd_str.mpr rfl)⟩)
        · cases q
      · cases q
    · rename_i n i
      split at q
      · rename_i ds hn
        split at q
        · obtain ⟨q1, q2⟩ := ofO_some q
          obtain ⟨a, vs, rfl, _, e3, rs⟩ := r.lst d1 hn
          obtain ⟨v, e4, e5⟩ := rds_at rs q1
          obtain ⟨p1, p2⟩ := p
          dsimp only at q2 e5
          subst q2
          exact .inl ⟨a, vs, _, v, rfl, rd_int.mp d2, .of e3, e4, k.same r e5⟩
        · cases q
      · rename_i kvs hn; exact absurd (by unfold isDctRef; dsimp only; rw [hn]) nd
      · rename_i kvs hn; exact absurd (by unfold isDctRef; dsimp only; rw [hn]) nd
      · cases q
    · split at q
      · rename_i ds hd
        obtain ⟨q1, q2⟩ := ofO_some q
        obtain ⟨a, vs, rfl, e3, rs⟩ := r.items d1 hd
        obtain ⟨v, e4, e5⟩ := rds_at rs q1
        obtain ⟨p1, p2⟩ := p
        dsimp only at q2 e5
        subst q2
        rcases e3 with e3 | e3
        · exact .inl ⟨a, vs, _, v, rfl, rd_int.mp d2, e3, e4, k.same r e5⟩
        · exact .inr (.inl ⟨a, vs, _, v, rfl, rd_int.mp d2, e3, e4, k.same r e5⟩)
      · cases q
    · cases q
theorem dget_of {K : PySem.W.Frag} {Fr ρ : List Addr} {H : Hp} {h : Hq} (r : HR K Fr ρ h H) {d e : D} {x y : V} {p : D × Hq} (d1 : RD K Fr ρ H d x) (d2 : RD K Fr ρ H e y) (nd : isDctRef h d = true) (q : ixD d e h = some p) :
    ∃ a v, x = .ref a ∧ DGet H a y (some v) ∧ RD K Fr ρ H p.1 v ∧ p.2 = h := by
  unfold isDctRef at nd
  split at nd
  · rename_i n
    unfold ixD at q
    dsimp only at q
    split at nd
    · rename_i kvs hn
      rw [hn] at q
      dsimp only at q
      split at q
      · rename_i k hk
        obtain ⟨q1, q2⟩ := ofO_some q
        obtain ⟨a, vs, rfl, _, e3, kr⟩ := r.dct d1 hn
        rcases kr.get (k := k) with ⟨z, _⟩ | ⟨d', v, z1, z2, z3⟩
        · rw [z] at q1; cases q1
        · rw [z1] at q1; cases q1
          refine ⟨a, v, rfl, ?_, z3, q2⟩
          rw [kv_of_key hk d2, ← z2]
          exact .k e3
      · cases q
    · rename_i kvs hn
      rw [hn] at q
      dsimp only at q
      split at q
      · split at q
        · rename_i ks k hk
          obtain ⟨q1, q2⟩ := ofO_some q
          unfold RD at d1
          obtain ⟨a, rfl, ha⟩ := d1
          obtain ⟨b', hb, vs, e3, kr⟩ := r.at' n _ hn
          rw [ha] at hb; cases hb
          obtain ⟨c, xs, rfl, e4, qs⟩ := d2.tupl
          rcases kr.get (k := k) with ⟨z, _⟩ | ⟨d', v, z1, z2, z3⟩
          · rw [z] at q1; cases q1
          · rw [z1] at q1; cases q1
            refine ⟨a, v, rfl, ?_, z3, q2⟩
            rw [kvs_of_keys hk qs] at e4
            rw [← z2]
            exact .t e3 e4
        · cases q
      · cases q
    · cases nd
  · cases nd
/-- one of two ways, by what was reckoned -/
theorem TEk.split2 {K : PySem.W.Frag} {W : EK K} {fa fb : Env' → Hq → R (D × Hq)} {g : D → D → Hq → Option (D × Hq)} (A : D → D → Hq → Bool) {σ : L2.St} {H : Hp} {Q : VK}
    (t : TEk K W (fun s h => (fa s h).bind fun p => (fb s p.2).bind fun q => lift (g p.1 q.1 q.2)) σ H Q) :
    TEk K W (fun s h => (fa s h).bind fun p => (fb s p.2).bind fun q => lift (if A p.1 q.1 q.2 then none else g p.1 q.1 q.2)) σ H Q ∨
    TEk K W (fun s h => (fa s h).bind fun p => (fb s p.2).bind fun q => lift (if A p.1 q.1 q.2 then g p.1 q.1 q.2 else none)) σ H Q := by
  obtain ⟨Fr, ρ, s, h, r, sr, ok⟩ := t
  dsimp only at ok
  unfold TEk
  dsimp only
  cases e1 : fa s h with
  | exc e q => exact .inl ⟨Fr, ρ, s, h, r, sr, by rw [e1] at ok ⊢; exact ok⟩
  | stuck => rw [e1] at ok; exact ok.elim
  | ok p =>
    rw [e1] at ok
    cases e2 : fb s p.2 with
    | exc e q =>
      have ok : okR _ _ ((fb s p.2).bind _) := ok
      rw [e2] at ok
      exact .inl ⟨Fr, ρ, s, h, r, sr, by rw [e1]; show okR _ _ ((fb s p.2).bind _); rw [e2]; exact ok⟩
    | stuck =>
      have ok : okR _ _ ((fb s p.2).bind _) := ok
      rw [e2] at ok; exact ok.elim
    | ok q =>
      have ok : okR _ _ ((fb s p.2).bind _) := ok
      rw [e2] at ok
      cases e3 : A p.1 q.1 q.2 with
      | false => exact .inl ⟨Fr, ρ, s, h, r, sr, by rw [e1]; show okR _ _ ((fb s p.2).bind _); rw [e2]; show okR _ _ (lift (if A p.1 q.1 q.2 = true then none else _)); rw [e3]; exact ok⟩
      | true => exact .inr ⟨Fr, ρ, s, h, r, sr, by rw [e1]; show okR _ _ ((fb s p.2).bind _); rw [e2]; show okR _ _ (lift (if A p.1 q.1 q.2 = true then _ else none)); rw [e3]; exact ok⟩
theorem se_ix {W : EK X.K} {a b : Expr} {pos : Pos} {fa fb : Env' → Hq → R (D × Hq)} (hu : X.A.units + 1 < cLine) (ha : SE X W a fa) (hb : SE X W b fb) (hs : PlainIx b) :
    SE X W (.Subscript a b pos) (fun s h => (fa s h).bind fun p => (fb s p.2).bind fun q => lift (ixD p.1 q.1 q.2)) := by
  refine PE.imp (PE.or (pe_ix ix_plain ha hb hs) (pe_dget hu ha hb hs)) fun σ H Q t => ?_
  rcases TEk.split2 (fun x i h => isDctRef h x) t with t | t
  · exact .inl (t2o (g := fun x i h => if isDctRef h x then none else ixD x i h) t)
  · refine .inr ?_
    obtain ⟨Fr, ρ, s, h, r, sr, ok⟩ := t2o (g := fun x i h => if isDctRef h x then ixD x i h else none) t
    refine ⟨Fr, ρ, s, h, r, sr, ok.mono (fun p q v ρ1 H1 x1 r1 d1 => ?_) fun _ _ z => z⟩
    obtain ⟨Fr, ρ, s, h, r, sr, ok⟩ := q v ρ1 H1 x1 r1 d1
    refine ⟨Fr, ρ, s, h, r, sr, ok.mono (fun p q v ρ1 H1 x1 r1 d1 => ?_) fun _ _ z => z⟩
    obtain ⟨Fr, ρ, h, d, e, r, d1, d2, p, q, k⟩ := q v ρ1 H1 x1 r1 d1
    dsimp only at q
    split at q
    · rename_i nd
      obtain ⟨a, v, e1, e2, e3, e4⟩ := dget_of r d1 d2 nd q
      obtain ⟨p1, p2⟩ := p
      dsimp only at e3 e4
      subst e4
      exact ⟨a, v, e1, e2, k.same r e3⟩
    · cases q

/-! ### slices -/
def rSlD (K : PySem.W.Frag) : V → Option Int → Option Int → Hp → VK → Prop := fun x lo hi H Q => ∃ Fr ρ h d, HR K Fr ρ h H ∧ RD K Fr ρ H d x ∧ ∃ p, sliceD d lo hi h = some p ∧ Kont K Fr ρ H Q p
theorem rds_cut {K : PySem.W.Frag} {Fr ρ : List Addr} {H : Hp} {ds : List D} {vs : List V} (lo hi : Option Int) (r : RDs K Fr ρ H ds vs) : RDs K Fr ρ H (cut ds lo hi) (cutV vs lo hi) := by
  unfold cut cutV
  rw [r.length]
  exact (r.drop _).take _
theorem cut_all {α : Type} {xs : List α} {lo hi : Option Int} (h : HT.sIx xs.length 0 lo = 0 ∧ HT.sIx xs.length xs.length hi = xs.length) : cut xs lo hi = xs := by
  unfold cut
  rw [h.1, h.2]; simp
theorem sl_D : SlR X (rSlD X.K) := by
  refine SlR.imp (sl_tupA.or (sl_str.or (sl_list.or sl_tupF))) fun x lo hi H Q ⟨Fr, ρ, h, d, r, d1, p, q, k⟩ => ?_
  unfold sliceD at q
  split at q
  · rename_i ns
    cases q
    have d1' := d1
    unfold RD at d1'
    obtain ⟨a, rfl, k1⟩ := d1'
    refine .inr (.inr (.inr ⟨a, _, rfl, k1.sqT, fun z => ?_, fun _ p o hp ho => ?_⟩))
    · rw [List.length_map] at z
      rw [cut_all z] at k
      exact k.same r d1
    · have e : cutV (ns.map V.int) lo hi = (cut ns lo hi).map V.int := by
        unfold cutV cut
        rw [List.length_map, List.map_take, List.map_drop]
      rw [e]
      exact k.ktp r hp ho
  · rename_i ds
    cases q
    obtain ⟨a, vs, rfl, s1, q1⟩ := d1.sqT
    refine .inl ⟨a, vs, rfl, s1, fun z => ?_, fun _ p hp => k.tup r (rds_cut lo hi q1) hp⟩
    rw [← q1.length] at z
    rw [cut_all z] at k
    exact k.same r d1
  · split at q
    · rename_i hl
      cases q
      exact .inr (.inl ⟨_, rd_str.mp d1, lineOk_le hl, k.same r (rd_str.mpr rfl)⟩)
    · cases q
  · rename_i _ nt ns
    split at q
    · rename_i ds hd
      cases q
      have hq : ∃ a vs, x = .ref a ∧ SqL X.K H a vs ∧ RDs X.K Fr ρ H ds vs := by
        unfold sqlOf at hd
        split at hd
        · cases hd
          unfold RD at d1
          obtain ⟨a, e1, k1⟩ := d1
          refine ⟨a, _, e1, ?_, RDs.of_ints _⟩
          rcases k1 with ⟨k1, _⟩ | k1
          · exact .inl k1.1
          · exact .inr k1
        · obtain ⟨a, vs, e, s, q⟩ := r.lstOf d1 hd
          exact ⟨a, vs, e, .of s, q⟩
      obtain ⟨a, vs, rfl, s, q1⟩ := hq
      exact .inr (.inr (.inl ⟨a, vs, rfl, s, fun p hp => k _ ρ _ (ext_new hp) (r.new hp) (RD.newL r (rds_cut lo hi q1) hp)⟩))
    · cases q

/-! ### stores to a place -/
def rSetD (K : PySem.W.Frag) : TSet := fun o i v H Q => ∃ Fr ρ h x k d, HR K Fr ρ h H ∧ RD K Fr ρ H x o ∧ RD K Fr ρ H k i ∧ RD K Fr ρ H d v ∧ ∃ h', setD x k d h = some h' ∧ ∀ ρ' H', Ext ρ H ρ' H' → HR K Fr ρ' h' H' → Q H'
theorem PSet.imp {t t' : TSet} (h : PSet X t) (i : ∀ o k v H Q, t' o k v H Q → t o k v H Q) : PSet X t' := fun pins s σ H o k v ov iv u Q I r1 r2 r3 q => h pins s σ H o k v ov iv u Q I r1 r2 r3 (i _ _ _ _ _ q)
theorem PSet.or {t t' : TSet} (h : PSet X t) (h' : PSet X t') : PSet X (fun o k v H Q => t o k v H Q ∨ t' o k v H Q) := fun pins s σ H o k v ov iv u Q I r1 r2 r3 q => q.elim (fun q => h pins s σ H o k v ov iv u Q I r1 r2 r3 q) fun q => h' pins s σ H o k v ov iv u Q I r1 r2 r3 q
theorem set_dict (hu : X.A.units + 1 < cLine) : PSet X (fun o i v H Q => ∃ a H4, o = .ref a ∧ DPut H a i v H4 ∧ Q H4) := fun pins s σ H o i v ov iv u Q I r1 r2 r3 ⟨a, H4, e, g, q⟩ => by
  subst e
  cases r1
  exact d_setItem hu I g r2 r3 fun s' I' => ⟨H4, I', q⟩
theorem set_D (hu : X.A.units + 1 < cLine) : PSet X (rSetD X.K) := by
  refine PSet.imp (PSet.or set_list (set_dict hu)) fun o i v H Q ⟨Fr, ρ, h, x, k, d, r, d1, d2, d3, h', q, kk⟩ => ?_
  unfold setD at q
  split at q
  · rename_i n
    split at q
    · rename_i ds hn
      split at q
      · split at q
        · rename_i j hj
          cases q
          obtain ⟨a, vs, rfl, ha, e3, rs⟩ := r.lst d1 hn
          refine .inl ⟨a, vs, _, j, rfl, rd_int.mp d2, e3, by rw [← rs.length]; exact hj, ?_⟩
          exact kk ρ _ (ext_set r ha) (r.set ha ⟨_, upd_same, RDs.mono (ext_set r ha) _ _ (RDs.set j d3 rs)⟩)
        · cases q
      · cases q
    · rename_i kvs hn
      split at q
      · rename_i kk' hk
        split at q
        · rename_i hl
          cases q
          obtain ⟨a, vs, rfl, ha, e3, kr⟩ := r.dct d1 hn
          rw [kv_of_key hk d2]
          refine .inr ⟨a, _, rfl, .k e3 (by rw [← kr.length, sizeLine_eq]; exact hl), ?_⟩
          exact kk ρ _ (ext_set r ha) (r.set ha ⟨_, upd_same, (kr.put d3).mono (ext_set r ha)⟩)
        · cases q
      · cases q
    · rename_i kvs hn
      split at q
      · rename_i ks
        split at q
        · rename_i kk' hk
          split at q
          · rename_i hl
            cases q
            unfold RD at d1
            obtain ⟨a, rfl, ha⟩ := d1
            obtain ⟨b', hb, vs, e3, kr⟩ := r.at' n _ hn
            rw [ha] at hb; cases hb
            obtain ⟨c, xs, rfl, e4, qs⟩ := d2.tupl
            rw [kvs_of_keys hk qs] at e4
            refine .inr ⟨a, _, rfl, .t e3 e4 (by rw [← kr.length, sizeLine_eq]; exact hl), ?_⟩
            exact kk ρ _ (ext_set r ha) (r.set ha ⟨_, upd_same, (kr.put d3).mono (ext_set r ha)⟩)
          · cases q
        · cases q
      · cases q
    · cases q
  · cases q

/-! ### built-ins -/
section
variable {K : PySem.W.Frag} {Fr ρ : List Addr} {H : Hp} {h : Hq}
theorem rds1 {d : D} {xs : List V} (r : RDs K Fr ρ H [d] xs) : ∃ v, xs = [v] ∧ RD K Fr ρ H d v := by
  unfold RDs at r
  obtain ⟨v, t, rfl, a, b⟩ := r
  unfold RDs at b
  subst b
  exact ⟨v, rfl, a⟩
theorem HR.ints (r : HR K Fr ρ h H) {d : D} {ns : List Int} {v : V} (k : RD K Fr ρ H d v) (e : intsL h d = some ns) : ∃ a, v = .ref a ∧ SqL K H a (ns.map V.int) := by
  obtain ⟨ds, e1, e2⟩ := Option.bind_eq_some_iff.mp e
  obtain ⟨a, vs, rfl, s, q⟩ := r.lstOf k e1
  rw [RDs.ints e2 q] at s
  exact ⟨a, rfl, .of s⟩
end
theorem call_len_d : CallR X (.builtin "len") (fun xs H Q => ∃ a kvs, xs = [.ref a] ∧ H a = some (.dK kvs) ∧ Q (.int kvs.length) H) := by
  intro pins s σ H xs us Q I r h
  obtain ⟨a, kvs, rfl, e, q⟩ := h
  obtain ⟨u, rfl, r1⟩ := vals1 r
  cases r1
  exact d_len I (.inl e) fun t s' I' => ⟨.int _, H, I', ⟨t, rfl⟩, q⟩
/-- a built-in of one argument, by values -/
theorem cb1 {v : Value} {r : List V → Hp → VK → Prop} {g : D → Hq → Option (D × Hq)} (c : CallR X v r)
    (i : ∀ x H Q Fr ρ h d p, HR X.K Fr ρ h H → RD X.K Fr ρ H d x → g d h = some p → Kont X.K Fr ρ H Q p → r [x] H Q) : CallR X v (rDs X.K (un1 g)) :=
  CallR.imp c fun xs H Q ⟨Fr, ρ, h, ds, r, d1, p, q, k⟩ => by
    unfold un1 at q
    split at q
    · obtain ⟨v, e, d2⟩ := rds1 d1
      subst e
      exact i v H Q Fr ρ h _ p r d2 q k
    · cases q
theorem cb_len : CallR X (.builtin "len") (rDs X.K (un1 lenD)) := by
  refine cb1 (call_len.or call_len_d) fun x H Q Fr ρ h d p r d1 q k => ?_
  unfold lenD at q
  split at q
  · split at q
    · rename_i hl
      cases q
      rw [rd_str.mp d1]
      exact .inl ⟨_, _, rfl, ⟨lineOk_le hl, rfl⟩, k.same r (rd_int.mpr rfl)⟩
    · cases q
  · split at q
    · rename_i n _ ds hn
      cases q
      obtain ⟨a, vs, rfl, ha, e3, rs⟩ := r.lst d1 hn
      exact .inl ⟨_, _, rfl, .inl ⟨vs, .of e3, rfl⟩, by rw [← rs.length]; exact k.same r (rd_int.mpr rfl)⟩
    · rename_i n _ kvs hn
      cases q
      obtain ⟨a, vs, rfl, ha, e3, kr⟩ := r.dct d1 hn
      exact .inr ⟨a, vs, rfl, e3, by rw [← kr.length]; exact k.same r (rd_int.mpr rfl)⟩
    · cases q
  · split at q
    · rename_i ds hd
      cases q
      obtain ⟨a, vs, rfl, e3, rs⟩ := r.items d1 hd
      refine .inl ⟨_, vs.length, rfl, ?_, by rw [← rs.length]; exact k.same r (rd_int.mpr rfl)⟩
      rcases e3 with e3 | e3
      · exact .inl ⟨vs, e3, rfl⟩
      · exact .inr ⟨vs, e3, rfl⟩
    · cases q
theorem cb_int : CallR X (.type "int") (rDs X.K (un1 toIntD)) := by
  refine cb1 (call_int1.or call_int_str) fun x H Q Fr ρ h d p r d1 q k => ?_
  unfold toIntD at q
  split at q
  · cases q; rw [rd_int.mp d1]; exact .inl (.inl ⟨_, rfl, k.same r (rd_int.mpr rfl)⟩)
  · cases q; rw [rd_bl.mp d1]; exact .inl (.inr ⟨_, rfl, k.same r (rd_int.mpr rfl)⟩)
  · split at q
    · rename_i hl
      split at q
      · rename_i n hn
        cases q; rw [rd_str.mp d1]; exact .inr ⟨_, _, rfl, hn, hl, k.same r (rd_int.mpr rfl)⟩
      · cases q
    · cases q
  · cases q
theorem cb_abs : CallR X (.builtin "abs") (rDs X.K (un1 absD)) := by
  refine cb1 call_abs fun x H Q Fr ρ h d p r d1 q k => ?_
  unfold absD at q
  split at q
  · cases q; rw [rd_int.mp d1]; exact ⟨_, rfl, k.same r (rd_int.mpr rfl)⟩
  · cases q
/-- values that are tuples of ints -/
def TupsAt (K : PySem.W.Frag) (H : Hp) : List V → List (List Int) → Prop
  | [], [] => True
  | v :: vs, n :: ns => (∃ t, v = V.ref t ∧ SqT K H t (n.map V.int)) ∧ TupsAt K H vs ns
  | _, _ => False
theorem TupsAt.get {K : PySem.W.Frag} {H : Hp} : ∀ {vs : List V} {ns : List (List Int)} {i : Nat} {v : V}, TupsAt K H vs ns → vs[i]? = some v → ∃ t n, v = V.ref t ∧ ns[i]? = some n ∧ SqT K H t (n.map V.int)
  | v :: vs, n :: ns, 0, w, h, e => by
    cases e
    obtain ⟨t, e1, e2⟩ := h.1
    exact ⟨t, n, e1, rfl, e2⟩
  | v :: vs, n :: ns, i + 1, w, h, e => by simpa using TupsAt.get h.2 (by simpa using e)
theorem RDs.get2 {K : PySem.W.Frag} {Fr ρ : List Addr} {H : Hp} : ∀ {ds : List D} {vs : List V} {i : Nat} {v : V}, RDs K Fr ρ H ds vs → vs[i]? = some v → ∃ d, ds[i]? = some d ∧ RD K Fr ρ H d v
  | [], vs, i, v, r, e => by
    unfold RDs at r
    subst r
    simp at e
  | d :: ds, vs, i, v, r, e => by
    unfold RDs at r
    obtain ⟨w, ws, rfl, k, r⟩ := r
    cases i with
    | zero => cases e; exact ⟨d, rfl, k⟩
    | succ i => simpa using RDs.get2 r (by simpa using e)
theorem HR.sql {K : PySem.W.Frag} {Fr ρ : List Addr} {H : Hp} {h : Hq} (r : HR K Fr ρ h H) {d : D} {ds : List D} {v : V} (k : RD K Fr ρ H d v) (e : sqlOf h d = some ds) : ∃ a vs, v = .ref a ∧ SqL K H a vs ∧ RDs K Fr ρ H ds vs := by
  unfold sqlOf at e
  split at e
  · cases e
    unfold RD at k
    obtain ⟨a, e1, k1⟩ := k
    refine ⟨a, _, e1, ?_, RDs.of_ints _⟩
    rcases k1 with ⟨k1, _⟩ | k1
    · exact .inl k1.1
    · exact .inr k1
  · obtain ⟨a, vs, e, s, q⟩ := r.lstOf k e
    exact ⟨a, vs, e, .of s, q⟩
theorem cb_tuple : CallR X (.type "tuple") (rDs X.K (un1 tupleD)) := by
  refine cb1 call_tuple_of fun x H Q Fr ρ h d p r d1 q k => ?_
  unfold tupleD at q
  split at q
  · cases q
    obtain ⟨a, vs, rfl, s, q⟩ := d1.sqT
    exact ⟨a, vs, rfl, .inr ⟨s, k.same r d1⟩⟩
  · cases q
    have d1' := d1
    unfold RD at d1'
    obtain ⟨a, rfl, k1⟩ := d1'
    exact ⟨a, _, rfl, .inr ⟨k1.sqT, k.same r d1⟩⟩
  · split at q
    · rename_i ds hd
      cases q
      obtain ⟨a, vs, rfl, s, q⟩ := r.sql d1 hd
      exact ⟨a, vs, rfl, .inl ⟨s, fun l hl => k.tup r q hl⟩⟩
    · cases q
end
end FF

/-! FFSE4: isinstance, sorted, methods. -/
namespace FF
open PySem PySem.Spec PyProof.Rows L2

/-! ### sorted -/
section
variable {X : Cx}
/-! ### isinstance(x, T), T one of four -/
theorem CallR.or {f : Value} {r1 r2 : List V → Hp → VK → Prop} (h1 : CallR X f r1) (h2 : CallR X f r2) : CallR X f (fun xs H Q => r1 xs H Q ∨ r2 xs H Q) := fun pins s σ H xs us Q I r h => h.elim (h1 pins s σ H xs us Q I r) (h2 pins s σ H xs us Q I r)
/-! ### methods -/
def rM (K : PySem.W.Frag) (g : D → List D → Hq → Option (D × Hq)) : V → List V → Hp → VK → Prop := fun x xs H Q => ∃ Fr ρ h d ds, HR K Fr ρ h H ∧ RD K Fr ρ H d x ∧ RDs K Fr ρ H ds xs ∧ ∃ p, g d ds h = some p ∧ Kont K Fr ρ H Q p
theorem mt_appendD : MtR X "list.append" (rM X.K appendD) := by
  refine MtR.imp (show MtR X "list.append" rAppend from mt_append) fun x xs H Q ⟨Fr, ρ, h, d, ds, r, d1, d2, p, q, k⟩ => ?_
  unfold appendD at q
  split at q
  · rename_i n v
    split at q
    · rename_i es hn
      split at q
      · rename_i hl
        cases q
        obtain ⟨a, vs, rfl, ha, e3, rs⟩ := r.lst d1 hn
        obtain ⟨w, e, d3⟩ := rds1 d2
        subst e
        refine ⟨a, vs, w, rfl, rfl, e3, by rw [← rs.length, sizeLine_eq]; exact hl, ?_⟩
        exact k _ ρ _ (ext_set r ha) (r.set ha ⟨_, upd_same, RDs.mono (ext_set r ha) _ _ (rs.append (.cons d3 .nil))⟩) (rd_non.mpr rfl)
      · cases q
    · cases q
  · cases q
theorem mt_popD : MtR X "list.pop" (rM X.K popD) := by
  refine MtR.imp (show MtR X "list.pop" rPop from mt_pop) fun x xs H Q ⟨Fr, ρ, h, d, ds, r, d1, d2, p, q, k⟩ => ?_
  unfold popD at q
  split at q
  · rename_i n
    split at q
    · rename_i es hn
      split at q
      · rename_i y hy
        cases q
        obtain ⟨a, vs, rfl, ha, e3, rs⟩ := r.lst d1 hn
        unfold RDs at d2
        subst d2
        obtain ⟨v, e4, d3⟩ := rs.get hy
        refine ⟨a, vs, v, rfl, rfl, e3, by rw [← rs.length]; exact e4, ?_⟩
        exact k _ ρ _ (ext_set r ha) (r.set ha ⟨_, upd_same, RDs.mono (ext_set r ha) _ _ rs.dropLast⟩) (RD.mono (ext_set r ha) _ _ d3)
      · cases q
    · cases q
  · cases q
end
end FF

/-! FFSE5: expressions in whole. -/
namespace FF
open PySem PySem.Spec PyProof.Rows L2

section
variable {X : Cx} {W : EK X.K}
/-! ### names, constants -/
theorem se_var {x : Str} {pos : Pos} {i : Nat} (hN : X.N[i]? = some x) (hv : Vis X.env.scope x) (hd : (x == ("__debug__" : Str)) = false) (hcd : (x == ("__classdict__" : Str)) = false) :
    SE X W (.Name x pos) (fun s h => match s[i]? with | some (some d) => R.ok (d, h) | _ => R.stuck) := by
  refine PE.imp (pe_var hN hv hd hcd) fun σ H Q ⟨Fr, ρ, s, h, r, sr, ok⟩ => ?_
  have ok : okR _ _ (match s[i]? with | some (some d) => R.ok (d, h) | _ => R.stuck) := ok
  split at ok
  · rename_i d e
    obtain ⟨v, e1, q⟩ := sr.get i d e
    exact ⟨v, e1, Kont.same ok r q⟩
  · exact ok.elim
theorem se_const {e : Expr} {v : V} {d : D} (h : PE X e (tC v)) (hr : ∀ Fr ρ H, RD X.K Fr ρ H d v) : SE X W e (fun _ h => .ok (d, h)) :=
  PE.imp h fun σ H Q ⟨Fr, ρ, s, h, r, sr, ok⟩ => Kont.same ok r (hr _ _ _)

/-! ### operators -/
theorem se_bin {op : Operator} {live : Bool} {a b : Expr} {pos : Pos} {fa fb : Env' → Hq → R (D × Hq)} (ha : SE X W a fa) (hb : SE X W b fb) :
    SE X W (.BinOp a op b pos) (fun s h => (fa s h).bind fun p => (fb s p.2).bind fun q => lift (binop op live p.1 q.1 q.2)) :=
  PE.imp (pe_op (op_bin op live) ha hb) fun _ _ _ t => t2o (g := binop op live) t
theorem se_neg {a : Expr} {pos : Pos} {fa : Env' → Hq → R (D × Hq)} (ha : SE X W a fa) : SE X W (.UnaryOp .USub a pos) (fun s h => (fa s h).bind fun p => lift (negD p.1 p.2)) :=
  PE.imp (pe_un un_negD ha) fun _ _ _ t => t1o (g := negD) t
theorem se_cmp {op : CmpOp} {a b : Expr} {pos : Pos} {fa fb : Env' → Hq → R (D × Hq)} (hu : X.A.units + 65 < cLine) (ha : SE X W a fa) (hb : SE X W b fb) (hm : behindInMarks op b = false) :
    SE X W (.Compare a [op] [b] pos) (fun s h => (fa s h).bind fun p => (fb s p.2).bind fun q => lift (cmpop op p.1 q.1 q.2)) :=
  PE.imp (pe_cmpR (op_cmp hu op) ha hb hm) fun _ _ _ t => t2o (g := cmpop op) t

/-! ### tests -/
theorem RDs.isEmpty {K : PySem.W.Frag} {Fr ρ : List Addr} {H : Hp} {ds : List D} {vs : List V} (q : RDs K Fr ρ H ds vs) : ds.isEmpty = vs.isEmpty := by
  have := q.length
  cases ds with
  | nil =>
    cases vs with
    | nil => rfl
    | cons a b => cases this
  | cons a b =>
    cases vs with
    | nil => cases this
    | cons a b => rfl
theorem KR.isEmpty {κ : Type} [DecidableEq κ] {K : PySem.W.Frag} {Fr ρ : List Addr} {H : Hp} {ds : List (κ × D)} {vs : List (κ × V)} (q : KR K Fr ρ H ds vs) : ds.isEmpty = vs.isEmpty := by
  have := q.length
  cases ds with
  | nil =>
    cases vs with
    | nil => rfl
    | cons a b => cases this
  | cons a b =>
    cases vs with
    | nil => cases this
    | cons a b => rfl
/-- the value's truth is the test's -/
theorem truth_tru {K : PySem.W.Frag} {Fr ρ : List Addr} {H : Hp} {h : Hq} (r : HR K Fr ρ h H) {d : D} {v : V} {b : Bool} (k : RD K Fr ρ H d v) (e : truth h d = some b) : TruV K v H b := by
  unfold truth at e
  split at e
  · cases e; rw [rd_non.mp k]; rfl
  · cases e; rw [rd_bl.mp k]; rfl
  · cases e; rw [rd_int.mp k]; rfl
  · split at e
    · rename_i hl
      cases e
      rw [rd_str.mp k]
      refine ⟨lineOk_le hl, ?_⟩
      generalize Str.length _ = n
      cases n with
      | zero => rfl
      | succ n => simp; omega
    · cases e
  · cases e
    obtain ⟨a, vs, rfl, s, q⟩ := k.sqT
    exact .inr (.inl ⟨vs, s, by rw [q.isEmpty]⟩)
  · cases e
    obtain ⟨a, vs, rfl, s, q⟩ := k.sqL
    exact .inl ⟨vs, .of s, by rw [q.isEmpty]⟩
  · split at e
    · rename_i n _ ds hn
      cases e
      obtain ⟨a, vs, rfl, _, s, q⟩ := r.lst k hn
      exact .inl ⟨vs, .of s, by rw [q.isEmpty]⟩
    · rename_i n _ ds hn
      cases e
      obtain ⟨a, vs, rfl, _, s, q⟩ := r.dct k hn
      exact .inr (.inr ⟨vs, s, by rw [q.isEmpty]⟩)
    · cases e
  · cases e
/-- an expression with no own way of testing -/
theorem st_plain {a : Expr} {fa : Env' → Hq → R (D × Hq)} (ha : SE X W a fa) (he : ∀ whole, isTrue a X.env whole = (do let v ← whole; standAt a.pos; holding [v] (truthy v))) : ST X W a (fun s h => testOf (fa s h)) := by
  refine PT.imp (pt_truth ha he) fun σ H Q ⟨Fr, ρ, s, h, r, sr, ok⟩ => ?_
  refine ⟨Fr, ρ, s, h, r, sr, (okR_bind.mp ok).mono (fun p q v ρ1 H1 x1 r1 d1 => ?_) fun _ _ z => z⟩
  have q : okR _ _ (match truth p.2 p.1 with | some b => R.ok (b, p.2) | none => .stuck) := q
  split at q
  · rename_i b hb
    exact ⟨b, truth_tru r1 d1 hb, q ρ1 H1 x1 r1⟩
  · exact q.elim
/-- a test that comes as a bool -/
theorem tt_bool {K : PySem.W.Frag} {W : EK K} {f : Env' → Hq → R (D × Hq)} (hb : ∀ s h p, f s h = .ok p → ∃ b, p.1 = .bl b) {σ : L2.St} {H : Hp} {Q : Bool → Hp → Prop} (t : TTk K W (fun s h => testOf (f s h)) σ H Q) :
    TEk K W f σ H fun x H' => ∃ k, x = .bl k ∧ Q k H' := by
  obtain ⟨Fr, ρ, s, h, r, sr, ok⟩ := t
  refine ⟨Fr, ρ, s, h, r, sr, ?_⟩
  dsimp only at ok
  cases e : f s h with
  | stuck => rw [e] at ok; exact ok
  | exc a b => rw [e] at ok; exact ok
  | ok p =>
    obtain ⟨b, e2⟩ := hb s h p e
    rw [e] at ok
    obtain ⟨p1, p2⟩ := p
    dsimp only at e2
    subst e2
    exact fun v ρ' H' x r d => ⟨b, rd_bl.mp d, ok ρ' H' x r⟩
theorem lift_ok {α : Type} {o : Option α} {a : α} (h : lift o = .ok a) : o = some a := by
  cases o with
  | none => cases h
  | some b => cases h; rfl
theorem bind_ok {α β : Type} {r : R α} {f : α → R β} {b : β} (h : r.bind f = .ok b) : ∃ a, r = .ok a ∧ f a = .ok b := by
  cases r with
  | ok a => exact ⟨a, rfl, h⟩
  | exc _ _ => cases h
  | stuck => cases h
theorem ofO_bl {h : Hq} {o : Option Bool} {p : D × Hq} {g : Bool → Bool} (e : ofO h (o.map fun b => .bl (g b)) = some p) : ∃ b, p.1 = .bl b := by
  obtain ⟨q1, _⟩ := ofO_some e
  obtain ⟨b, _, e2⟩ := Option.map_eq_some_iff.mp q1
  exact ⟨g b, e2.symm⟩
theorem intC_bl {g : Int → Int → Bool} {x y : D} {h : Hq} {p : D × Hq} (e : intC g x y h = some p) : ∃ b, p.1 = .bl b := by
  unfold intC at e
  split at e
  · cases e; exact ⟨_, rfl⟩
  · cases e
theorem cmpop_bl {op : CmpOp} {x y : D} {h : Hq} {p : D × Hq} (e : cmpop op x y h = some p) : ∃ b, p.1 = .bl b := by
  cases op
  case Eq => exact ofO_bl (g := id) e
  case NotEq => exact ofO_bl e
  case Lt => exact ofO_bl (g := id) e
  case LtE => exact intC_bl e
  case Gt => exact intC_bl e
  case GtE => exact intC_bl e
  case Is =>
    have e : (if isNon y then some (D.bl (isNon x), h) else isBB id x y h) = some p := e
    split at e
    · cases e; exact ⟨_, rfl⟩
    · unfold isBB at e
      split at e
      · cases e; exact ⟨_, rfl⟩
      · cases e
  case IsNot =>
    have e : (if isNon y then some (D.bl (!isNon x), h) else isBB not x y h) = some p := e
    split at e
    · cases e; exact ⟨_, rfl⟩
    · unfold isBB at e
      split at e
      · cases e; exact ⟨_, rfl⟩
      · cases e
  case In => exact ofO_bl (g := id) e
  case NotIn => exact ofO_bl e
theorem st_cmp {op : CmpOp} {a b : Expr} {pos : Pos} {fa fb : Env' → Hq → R (D × Hq)} (hu : X.A.units + 65 < cLine) (ha : SE X W a fa) (hb : SE X W b fb) (hm : behindInMarks op b = false) :
    ST X W (.Compare a [op] [b] pos) (fun s h => testOf ((fa s h).bind fun p => (fb s p.2).bind fun q => lift (cmpop op p.1 q.1 q.2))) := by
  refine PT.imp (pt_cmpR (op_cmp hu op) ha hb hm) fun σ H Q t => ?_
  refine t2o (g := cmpop op) (tt_bool (fun s h p e => ?_) t)
  obtain ⟨x, _, e⟩ := bind_ok e
  obtain ⟨y, _, e⟩ := bind_ok e
  exact cmpop_bl (lift_ok e)
/-! ### and, or, not, if -/
theorem se_not {a : Expr} {pos : Pos} {fa : Env' → Hq → R (D × Hq)} (ha : SE X W a fa) : SE X W (.UnaryOp .Not a pos) (fun s h => (testOf (fa s h)).bind fun b => .ok (.bl (!b.1), b.2)) := by
  refine PE.imp (pe_notT ha) fun σ H Q ⟨Fr, ρ, s, h, r, sr, ok⟩ => ?_
  refine ⟨Fr, ρ, s, h, r, sr, (okR_bind.mp (okR_bind.mp ok)).mono (fun p q v ρ1 H1 x1 r1 d1 => ?_) fun _ _ z => z⟩
  have q : okR _ _ (match truth p.2 p.1 with | some b => R.ok (b, p.2) | none => .stuck) := q
  split at q
  · rename_i b hb
    exact ⟨b, truth_tru r1 d1 hb, q _ ρ1 H1 x1 r1 (rd_bl.mpr rfl)⟩
  · exact q.elim
theorem st_not {a : Expr} {pos : Pos} {fa : Env' → Hq → R (D × Hq)} (ha : ST X W a (fun s h => testOf (fa s h))) :
    ST X W (.UnaryOp .Not a pos) (fun s h => testOf ((testOf (fa s h)).bind fun b => .ok (.bl (!b.1), b.2))) := by
  refine PT.imp (pt_not ha) fun σ H Q ⟨Fr, ρ, s, h, r, sr, ok⟩ => ?_
  refine ⟨Fr, ρ, s, h, r, sr, ?_⟩
  dsimp only at ok ⊢
  cases e : testOf (fa s h) with
  | stuck => rw [e] at ok; exact ok
  | exc a b => rw [e] at ok; exact ok
  | ok p => rw [e] at ok; exact ok
def andD (fa fb : Env' → Hq → R (D × Hq)) : Env' → Hq → R (D × Hq) := fun s h => (fa s h).bind fun p => match truth p.2 p.1 with | some true => fb s p.2 | some false => .ok p | none => .stuck
def orD (fa fb : Env' → Hq → R (D × Hq)) : Env' → Hq → R (D × Hq) := fun s h => (fa s h).bind fun p => match truth p.2 p.1 with | some false => fb s p.2 | some true => .ok p | none => .stuck
theorem se_and {a b : Expr} {rest : List Expr} {pos : Pos} {fa fb : Env' → Hq → R (D × Hq)} (ha : SE X W a fa) (hb : SE X W (.BoolOp .And (b :: rest) pos) fb) : SE X W (.BoolOp .And (a :: b :: rest) pos) (andD fa fb) := by
  refine PE.imp (pe_andT ha hb) fun σ H Q ⟨Fr, ρ, s, h, r, sr, ok⟩ => ?_
  refine ⟨Fr, ρ, s, h, r, sr, (okR_bind.mp ok).mono (fun p q v ρ1 H1 x1 r1 d1 => ?_) fun _ _ z => z⟩
  split at q
  · rename_i hb
    refine ⟨true, truth_tru r1 d1 hb, ?_⟩
    rw [if_pos rfl]
    exact ⟨Fr, ρ1, s, p.2, r1, sr.mono x1, q.mono (fun p2 k u ρ2 H2 x2 r2 d2 => k u ρ2 H2 (x1.step r1 x2) r2 d2) fun _ _ z => W.mono x1 r1 z⟩
  · rename_i hb
    refine ⟨false, truth_tru r1 d1 hb, ?_⟩
    rw [if_neg Bool.false_ne_true]
    exact q v ρ1 H1 x1 r1 d1
  · exact q.elim
theorem se_one {op : BoolOp} {a : Expr} {pos : Pos} {fa : Env' → Hq → R (D × Hq)} (ha : SE X W a fa) : SE X W (.BoolOp op [a] pos) fa := pe_one ha
/-- tests of and, or: whatever the whole is -/
def SW (X : Cx) (W : EK X.K) (e : Expr) (f : Env' → Hq → R (Bool × Hq)) : Prop := PW X e (TTk X.K W f)
theorem PW.imp {e : Expr} {t t' : TT} (h : PW X e t) (i : ∀ σ H Q, t' σ H Q → t σ H Q) : PW X e t' := ⟨fun wh pins s σ H Q I q => h.run wh pins s σ H Q I (i σ H Q q)⟩
theorem sw_or {a b : Expr} {rest : List Expr} {pos : Pos} {fa fb : Env' → Hq → R (D × Hq)} (ha : ST X W a (fun s h => testOf (fa s h))) (hb : SW X W (.BoolOp .Or (b :: rest) pos) (fun s h => testOf (fb s h))) :
    SW X W (.BoolOp .Or (a :: b :: rest) pos) (fun s h => testOf (orD fa fb s h)) := by
  refine PW.imp (pw_or ha hb) fun σ H Q ⟨Fr, ρ, s, h, r, sr, ok⟩ => ?_
  refine ⟨Fr, ρ, s, h, r, sr, ?_⟩
  dsimp only at ok ⊢
  unfold orD at ok
  cases e : fa s h with
  | stuck => rw [e] at ok; exact ok
  | exc a b => rw [e] at ok; exact ok
  | ok p =>
    rw [e] at ok
    have ok : okR _ _ (testOf (match truth p.2 p.1 with | some false => fb s p.2 | some true => .ok p | none => .stuck)) := ok
    show okR _ _ (match truth p.2 p.1 with | some b => R.ok (b, p.2) | none => .stuck)
    cases et : truth p.2 p.1 with
    | none => rw [et] at ok; exact ok
    | some b =>
      rw [et] at ok
      cases b with
      | false =>
        refine fun ρ1 H1 x1 r1 => ?_
        show (if false = true then _ else _)
        rw [if_neg Bool.false_ne_true]
        exact ⟨Fr, ρ1, s, p.2, r1, sr.mono x1, okR.mono ok (fun p2 k ρ2 H2 x2 r2 => k ρ2 H2 (x1.step r1 x2) r2) fun _ _ z => W.mono x1 r1 z⟩
      | true =>
        refine fun ρ1 H1 x1 r1 => ?_
        show (if true = true then _ else _)
        rw [if_pos rfl]
        have ok : okR _ _ (match truth p.2 p.1 with | some b => R.ok (b, p.2) | none => .stuck) := ok
        rw [et] at ok
        exact ok ρ1 H1 x1 r1
theorem sw_one_or {a : Expr} {pos : Pos} {fa : Env' → Hq → R (D × Hq)} (ha : ST X W a (fun s h => testOf (fa s h))) : SW X W (.BoolOp .Or [a] pos) (fun s h => testOf (fa s h)) := pw_or1 ha
def ifD (ft fa fb : Env' → Hq → R (D × Hq)) : Env' → Hq → R (D × Hq) := fun s h => (testOf (ft s h)).bind fun c => if c.1 then fa s c.2 else fb s c.2
theorem se_if {t a b : Expr} {pos : Pos} {ft fa fb : Env' → Hq → R (D × Hq)} (ht : ST X W t (fun s h => testOf (ft s h))) (ha : SE X W a fa) (hb : SE X W b fb) : SE X W (.IfExp t a b pos) (ifD ft fa fb) := by
  refine PE.imp (pe_ifExp ht ha hb) fun σ H Q ⟨Fr, ρ, s, h, r, sr, ok⟩ => ?_
  refine ⟨Fr, ρ, s, h, r, sr, (okR_bind.mp ok).mono (fun p q ρ1 H1 x1 r1 => ?_) fun _ _ z => z⟩
  obtain ⟨c, h1⟩ := p
  cases c with
  | true =>
    rw [if_pos rfl]
    exact ⟨Fr, ρ1, s, h1, r1, sr.mono x1, okR.mono (show okR _ _ (fa s h1) from q) (fun p2 k u ρ2 H2 x2 r2 d2 => k u ρ2 H2 (x1.step r1 x2) r2 d2) fun _ _ z => W.mono x1 r1 z⟩
  | false =>
    rw [if_neg Bool.false_ne_true]
    exact ⟨Fr, ρ1, s, h1, r1, sr.mono x1, okR.mono (show okR _ _ (fb s h1) from q) (fun p2 k u ρ2 H2 x2 r2 d2 => k u ρ2 H2 (x1.step r1 x2) r2 d2) fun _ _ z => W.mono x1 r1 z⟩
end
end FF

/-! FFSE6: arguments, displays, calls of built-ins, methods, slices. -/
namespace FF
open PySem PySem.Spec PyProof.Rows L2

section
variable {X : Cx} {W : EK X.K}
theorem sa_nil : SA X W [] (fun _ h => .ok ([], h)) := PA.imp pa_nil fun σ H Q ⟨Fr, ρ, s, h, r, sr, ok⟩ => ok [] ρ H .refl r RDs.nil
theorem sa_cons {e : Expr} {es : List Expr} {fe : Env' → Hq → R (D × Hq)} {fs : Env' → Hq → R (List D × Hq)} (he : SE X W e fe) (hs : SA X W es fs) (hst : starEach (e :: es) X.env = (false, eval e X.env) :: starEach es X.env) :
    SA X W (e :: es) (fun s h => (fe s h).bind fun p => (fs s p.2).bind fun q => .ok (p.1 :: q.1, q.2)) := by
  refine PA.imp (pa_cons he hs hst) fun σ H Q ⟨Fr, ρ, s, h, r, sr, ok⟩ => ?_
  refine ⟨Fr, ρ, s, h, r, sr, (okR_bind.mp ok).mono (fun p q v ρ1 H1 x1 r1 d1 => ?_) fun _ _ z => z⟩
  refine ⟨Fr, ρ1, s, p.2, r1, sr.mono x1, (okR_bind.mp q).mono (fun p2 q2 w ρ2 H2 x2 r2 d2 => ?_) fun _ _ z => W.mono x1 r1 z⟩
  exact q2 _ ρ2 H2 (x1.step r1 x2) r2 (.cons (RD.mono x2 _ _ d1) d2)
/-- what is done with the arguments' values -/
theorem tA {K : PySem.W.Frag} {W : EK K} {fs : Env' → Hq → R (List D × Hq)} {g : List D → Hq → R (D × Hq)} {σ : L2.St} {H : Hp} {Q : VK} (t : TEk K W (fun s h => (fs s h).bind fun q => g q.1 q.2) σ H Q) :
    TAk K W fs σ H fun xs H1 => ∃ Fr ρ h ds, HR K Fr ρ h H1 ∧ RDs K Fr ρ H1 ds xs ∧ okR (Kont K Fr ρ H1 Q) (W.p Fr ρ H1 σ) (g ds h) := by
  obtain ⟨Fr, ρ, s, h, r, sr, ok⟩ := t
  refine ⟨Fr, ρ, s, h, r, sr, (okR_bind.mp ok).mono (fun p q v ρ1 H1 x1 r1 d1 => ?_) fun _ _ z => z⟩
  exact ⟨Fr, ρ1, p.2, p.1, r1, d1, q.mono (fun a k u ρ3 H3 x3 r3 d3 => k u ρ3 H3 (x1.step r1 x3) r3 d3) fun _ _ z => W.mono x1 r1 z⟩
theorem TAk.mono {K : PySem.W.Frag} {W : EK K} {fs : Env' → Hq → R (List D × Hq)} {σ : L2.St} {H : Hp} {Q Q' : List V → Hp → Prop} (t : TAk K W fs σ H Q) (i : ∀ xs H, Q xs H → Q' xs H) : TAk K W fs σ H Q' := by
  obtain ⟨Fr, ρ, s, h, r, sr, ok⟩ := t
  exact ⟨Fr, ρ, s, h, r, sr, ok.mono (fun p q v ρ1 H1 x1 r1 d1 => i _ _ (q v ρ1 H1 x1 r1 d1)) fun _ _ z => z⟩
theorem tAo {K : PySem.W.Frag} {W : EK K} {fs : Env' → Hq → R (List D × Hq)} {g : List D → Hq → Option (D × Hq)} {σ : L2.St} {H : Hp} {Q : VK} (t : TEk K W (fun s h => (fs s h).bind fun q => lift (g q.1 q.2)) σ H Q) :
    tCB (rDs K g) (TAk K W fs) σ H Q :=
  (tA (g := fun ds h => lift (g ds h)) t).mono fun xs H1 ⟨Fr, ρ, h, ds, r, d, ok⟩ => ⟨Fr, ρ, h, ds, r, d, okR_lift ok⟩
/-- a display of a tuple, of a list -/
theorem se_tup {es : List Expr} {x1 : Nat} {pos : Pos} {fs : Env' → Hq → R (List D × Hq)} (h : SA X W es fs) : SE X W (.Tuple es x1 pos) (fun s h => (fs s h).bind fun q => lift (mkT q.1 q.2)) := by
  refine PE.imp (pe_tup h) fun σ H Q t => (tA (g := fun ds h => lift (mkT ds h)) t).mono fun xs H1 ⟨Fr, ρ, h, ds, r, d, ok⟩ => ?_
  obtain ⟨p, e, k⟩ := okR_lift ok
  unfold mkT at e
  split at e
  · rename_i hl
    cases e
    exact ⟨by rw [← d.length]; exact lineOk_le hl, fun p hp => Kont.tup k r d hp⟩
  · cases e
theorem se_lst {es : List Expr} {pos : Pos} {live : Bool} {fs : Env' → Hq → R (List D × Hq)} (h : SA X W es fs) : SE X W (.List es pos) (fun s h => (fs s h).bind fun q => lift (mkL live q.1 q.2)) := by
  refine PE.imp (pe_lst h) fun σ H Q t => (tA (g := fun ds h => lift (mkL live ds h)) t).mono fun xs H1 ⟨Fr, ρ, h, ds, r, d, ok⟩ => ?_
  obtain ⟨p, e, k⟩ := okR_lift ok
  exact ⟨by rw [← d.length]; exact mkL_len e, fun p hp => Kont.lst k e r d hp⟩
/-- calls of built-ins -/
theorem se_cb {id : String} {x : Str} {e : Expr} {es : List Expr} {p pos : Pos} {g : List D → Hq → Option (D × Hq)} {fs : Env' → Hq → R (List D × Hq)} (hc : CallR X (.builtin id) (rDs X.K g)) (hg : Gl X x) (hm : X.mg x = none) (hv : bootBuiltins x = some (.builtin id))
    (ha : SA X W (e :: es) fs) (hn : x ≠ "__name__") (hdb : (x == ("__debug__" : Str)) = false) (he : starEach (e :: es) X.env = (false, eval e X.env) :: starEach es X.env) (hpl : (backTo pos (starEach es X.env)).any (·.1) = false) :
    SE X W (.Call (.Name x p) (e :: es) [] pos) (fun s h => (fs s h).bind fun q => lift (g q.1 q.2)) := PE.imp (pe_callB hc hg hm hv ha hn hdb he hpl) fun _ _ _ t => tAo t
theorem se_ct {T : String} {x : Str} {e : Expr} {es : List Expr} {p pos : Pos} {g : List D → Hq → Option (D × Hq)} {fs : Env' → Hq → R (List D × Hq)} (hc : CallR X (.type T) (rDs X.K g)) (hg : Gl X x) (hm : X.mg x = none) (hv : bootBuiltins x = some (.type T))
    (ha : SA X W (e :: es) fs) (hn : x ≠ "__name__") (hdb : (x == ("__debug__" : Str)) = false) (he : starEach (e :: es) X.env = (false, eval e X.env) :: starEach es X.env) (hpl : (backTo pos (starEach es X.env)).any (·.1) = false) :
    SE X W (.Call (.Name x p) (e :: es) [] pos) (fun s h => (fs s h).bind fun q => lift (g q.1 q.2)) := PE.imp (pe_callTy hc hg hm hv ha hn hdb he hpl) fun _ _ _ t => tAo t
/-! ### slices -/
def SO (X : Cx) (W : EK X.K) (e : Option Expr) (f : Env' → Hq → R (Option Int × Hq)) : Prop := PO X e (fun σ H Q => ∃ Fr ρ s h, HR X.K Fr ρ h H ∧ SR X.K Fr ρ H s σ ∧ okR (fun p => ∀ ρ' H', Ext ρ H ρ' H' → HR X.K Fr ρ' p.2 H' → Q p.1 H') (W.p Fr ρ H σ) (f s h))
theorem PO.imp {e : Option Expr} {t t' : TO} (h : PO X e t) (i : ∀ σ H Q, t' σ H Q → t σ H Q) : PO X e t' := ⟨fun pins s σ H Q I q => h.run pins s σ H Q I (i _ _ _ q)⟩
theorem so_no : SO X W none (fun _ h => .ok (none, h)) := PO.imp po_none fun σ H Q ⟨Fr, ρ, s, h, r, sr, ok⟩ => ok ρ H .refl r
theorem so_yes {e : Expr} {fe : Env' → Hq → R (D × Hq)} (he : SE X W e fe) : SO X W (some e) (fun s h => (fe s h).bind fun p => match p.1 with | .int i => .ok (some i, p.2) | _ => .stuck) := by
  refine PO.imp (po_some he) fun σ H Q ⟨Fr, ρ, s, h, r, sr, ok⟩ => ?_
  refine ⟨Fr, ρ, s, h, r, sr, (okR_bind.mp ok).mono (fun p q v ρ1 H1 x1 r1 d1 => ?_) fun _ _ z => z⟩
  split at q
  · rename_i i e
    rw [e] at d1
    exact ⟨i, rd_int.mp d1, q ρ1 H1 x1 r1⟩
  · exact q.elim
theorem se_slice {e : Expr} {lo hi : Option Expr} {p2 pos : Pos} {fe : Env' → Hq → R (D × Hq)} {fl fh : Env' → Hq → R (Option Int × Hq)} (he : SE X W e fe) (hl : SO X W lo fl) (hh : SO X W hi fh) :
    SE X W (.Subscript e (.Slice lo hi none p2) pos) (fun s h => (fe s h).bind fun p => (fl s p.2).bind fun l => (fh s l.2).bind fun u => lift (sliceD p.1 l.1 u.1 u.2)) := by
  refine PE.imp (pe_slice sl_D he hl hh) fun σ H Q ⟨Fr, ρ, s, h, r, sr, ok⟩ => ?_
  refine ⟨Fr, ρ, s, h, r, sr, (okR_bind.mp ok).mono (fun p q v ρ1 H1 x1 r1 d1 => ?_) fun _ _ z => z⟩
  refine ⟨Fr, ρ1, s, p.2, r1, sr.mono x1, (okR_bind.mp q).mono (fun p2 q2 ρ2 H2 x2 r2 => ?_) fun _ _ z => W.mono x1 r1 z⟩
  refine ⟨Fr, ρ2, s, p2.2, r2, sr.mono (x1.step r1 x2), (okR_bind.mp q2).mono (fun p3 q3 ρ3 H3 x3 r3 => ?_) fun _ _ z => W.mono (x1.step r1 x2) r2 z⟩
  obtain ⟨y, e, k⟩ := okR_lift q3
  exact ⟨Fr, ρ3, p3.2, p.1, r3, RD.mono (x2.step r2 x3) _ _ d1, y, e, fun u ρ4 H4 x4 r4 d4 => k u ρ4 H4 (((x1.step r1 x2).step r2 x3).step r3 x4) r4 d4⟩
/-! ### methods -/
/-- o.m(args), where the kind of o is k0 -/
def mthD (m : Me) (k0 : Kd) (g : D → List D → Hq → Option (D × Hq)) (fo : Env' → Hq → R (D × Hq)) (fs : Env' → Hq → R (List D × Hq)) : Env' → Hq → R (D × Hq) :=
  fun s h => (fo s h).bind fun p => if meKind m p.1 p.2 = some k0 then (fs s p.2).bind fun q => lift (g p.1 q.1 q.2) else .stuck
theorem tM {K : PySem.W.Frag} {W : EK K} {m : Me} {k0 : Kd} {T : String} {g : D → List D → Hq → Option (D × Hq)} {fo : Env' → Hq → R (D × Hq)} {fs : Env' → Hq → R (List D × Hq)} {σ : L2.St} {H : Hp} {Q : VK}
    (ht : ∀ Fr ρ h H d x, HR K Fr ρ h H → RD K Fr ρ H d x → kdOf h d = some k0 → tyV K T x H) (t : TEk K W (mthD m k0 g fo fs) σ H Q) : tBM K T (rM K g) (TEk K W fo) (TAk K W fs) σ H Q := by
  obtain ⟨Fr, ρ, s, h, r, sr, ok⟩ := t
  refine ⟨Fr, ρ, s, h, r, sr, (okR_bind.mp ok).mono (fun p q v ρ1 H1 x1 r1 d1 => ?_) fun _ _ z => z⟩
  split at q
  · rename_i hk
    have hk' : kdOf p.2 p.1 = some k0 := by
      unfold meKind at hk
      split at hk
      · rename_i k e
        split at hk
        · rw [e]; exact hk
        · cases hk
      · cases hk
    refine ⟨ht _ _ _ _ _ _ r1 d1 hk', Fr, ρ1, s, p.2, r1, sr.mono x1, (okR_bind.mp q).mono (fun p2 q2 w ρ2 H2 x2 r2 d2 => ?_) fun _ _ z => W.mono x1 r1 z⟩
    obtain ⟨y, e, k⟩ := okR_lift q2
    exact ⟨Fr, ρ2, p2.2, p.1, p2.1, r2, RD.mono x2 _ _ d1, d2, y, e, fun u ρ4 H4 x4 r4 d4 => k u ρ4 H4 ((x1.step r1 x2).step r2 x4) r4 d4⟩
  · exact q.elim
theorem ty_lst {K : PySem.W.Frag} {Fr ρ : List Addr} {h : Hq} {H : Hp} {d : D} {x : V} (r : HR K Fr ρ h H) (k : RD K Fr ρ H d x) (e : kdOf h d = some .lst) : tyV K "list" x H := by
  unfold kdOf at e
  split at e
  · split at e
    · rename_i ds hn
      obtain ⟨a, vs, rfl, _, s, q⟩ := r.lst k hn
      exact .inl ⟨rfl, vs, .of s⟩
    · cases e
    · cases e
  · cases e
  · cases e
  · cases e
  · cases e
end
end FF

/-! FFSE7: what is walked; targets; comprehensions. -/
namespace FF
open PySem PySem.Spec PyProof.Rows L2

mutual
theorem D.beq_eq : ∀ {a b : D}, D.beq a b = true → a = b
  | .non, b, h => by cases b <;> simp [D.beq] at h; rfl
  | .bl x, b, h => by cases b <;> simp [D.beq] at h; rw [h]
  | .int x, b, h => by cases b <;> simp [D.beq] at h; rw [h]
  | .str x, b, h => by cases b <;> simp [D.beq] at h; rw [h]
  | .scr x, b, h => by cases b <;> simp [D.beq] at h; rw [h]
  | .ktp x, b, h => by cases b <;> simp [D.beq] at h; rw [h]
  | .kpp x, b, h => by cases b <;> simp [D.beq] at h; rw [h]
  | .ref x, b, h => by cases b <;> simp [D.beq] at h; rw [h]
  | .tup xs, b, h => by cases b <;> simp [D.beq] at h; rw [D.beqs_eq h]
  | .lst xs, b, h => by cases b <;> simp [D.beq] at h; rw [D.beqs_eq h]
  | .dct xs, b, h => by cases b <;> simp [D.beq] at h; rw [D.beqs_eq h]
  | .exn c xs, b, h => by cases b <;> simp [D.beq] at h; rw [h.1, D.beqs_eq h.2]
  | .opq k, b, h => by cases b <;> simp [D.beq] at h; rw [h]
theorem D.beqs_eq : ∀ {a b : List D}, D.beqs a b = true → a = b
  | [], b, h => by cases b <;> simp [D.beqs] at h; rfl
  | x :: xs, b, h => by
    cases b with
    | nil => simp [D.beqs] at h
    | cons y ys => simp [D.beqs] at h; rw [D.beq_eq h.1, D.beqs_eq h.2]
end
theorem stands_at {h : Hq} {w : Watch} (e : stands h w = true) {n : Nat} {ds : List D} (m : (n, ds) ∈ w) : h[n]? = some (.lst ds) := by
  have q := List.all_eq_true.mp e _ m
  dsimp only at q
  split at q
  · rename_i es e1
    rw [e1, D.beqs_eq q]
  · cases q

section
variable {K : PySem.W.Frag} {Fr Fr' ρ ρ' : List Addr} {H H' : Hp} {h : Hq}
mutual
theorem RD.fr (hf : ∀ a ∈ Fr', a ∈ Fr ∨ H a = none) : ∀ (d : D) (v : V), RD K Fr ρ H d v → RD K Fr' ρ H d v
  | .non, _, r => r
  | .bl _, _, r => r
  | .int _, _, r => r
  | .str _, _, r => r
  | .ktp _, _, r => by unfold RD at r ⊢; exact r
  | .kpp _, _, r => by unfold RD at r ⊢; exact r
  | .ref n, _, r => by unfold RD at r ⊢; exact r
  | .tup ds, _, r => by
    unfold RD at r ⊢
    obtain ⟨a, vs, e, k, n, q⟩ := r
    exact ⟨a, vs, e, k, n, RDs.fr hf ds vs q⟩
  | .lst ds, _, r => by
    unfold RD at r ⊢
    obtain ⟨a, vs, e, k, n, nf, q⟩ := r
    refine ⟨a, vs, e, k, n, fun z => ?_, RDs.fr hf ds vs q⟩
    rcases hf a z with z | z
    · exact nf z
    · rw [k] at z; cases z
  | .scr ns, _, r => by
    unfold RD at r ⊢
    obtain ⟨a, e, k⟩ := r
    refine ⟨a, e, k.imp (fun k => ⟨k.1, fun z => ?_⟩) id⟩
    rcases hf a z with z | z
    · exact k.2 z
    · rcases k.1.1 with q | ⟨o, q⟩ <;> (rw [q] at z; cases z)
  | .dct ds, _, r => by
    unfold RD at r ⊢
    obtain ⟨a, kvs, e, k, n, nf, q⟩ := r
    refine ⟨a, kvs, e, k, n, fun z => ?_, RDs.fr hf ds _ q⟩
    rcases hf a z with z | z
    · exact nf z
    · rw [k] at z; cases z
  | .opq _, _, r => by
    unfold RD at r ⊢
    obtain ⟨a, e, n, nf, k⟩ := r
    refine ⟨a, e, n, fun z => ?_, k⟩
    rcases hf a z with z | z
    · exact nf z
    · obtain ⟨o, ho, _⟩ := k.has
      rw [ho] at z; cases z
  | .exn c ds, _, r => by
    unfold RD at r ⊢
    obtain ⟨vs, k, q⟩ := r
    refine ⟨vs, k.go fun b o n nf e t => ⟨e, n, fun z => ?_⟩, RDs.fr hf ds vs q⟩
    rcases hf b z with z | z
    · exact nf z
    · rw [e] at z; cases z
theorem RDs.fr (hf : ∀ a ∈ Fr', a ∈ Fr ∨ H a = none) : ∀ (ds : List D) (vs : List V), RDs K Fr ρ H ds vs → RDs K Fr' ρ H ds vs
  | [], _, r => r
  | d :: ds, _, r => by
    unfold RDs at r ⊢
    obtain ⟨v, t, e, k, q⟩ := r
    exact ⟨v, t, e, RD.fr hf d v k, RDs.fr hf ds t q⟩
end
theorem SR.fr (hf : ∀ a ∈ Fr', a ∈ Fr ∨ H a = none) {s : Env'} {σ : L2.St} (r : SR K Fr ρ H s σ) : SR K Fr' ρ H s σ :=
  ⟨r.len, fun i d e => let ⟨v, e1, q⟩ := r.get i d e; ⟨v, e1, RD.fr hf d v q⟩⟩
theorem sub_fr (hs : ∀ a ∈ Fr', a ∈ Fr) : ∀ a ∈ Fr', a ∈ Fr ∨ H a = none := fun a ha => .inl (hs a ha)
theorem KR.fr {κ : Type} {kvs : List (κ × D)} {vs : List (κ × V)} (hf : ∀ a ∈ Fr', a ∈ Fr ∨ H a = none) (r : KR K Fr ρ H kvs vs) : KR K Fr' ρ H kvs vs := ⟨r.1, RDs.fr hf _ _ r.2⟩
theorem OR.fr (hf : ∀ a ∈ Fr', a ∈ Fr ∨ H a = none) {o : Ob} {a : Addr} (r : OR K Fr ρ H o a) : OR K Fr' ρ H o a := by
  cases o with
  | lst ds => obtain ⟨vs, e, q⟩ := r; exact ⟨vs, e, RDs.fr hf _ _ q⟩
  | dct ds => obtain ⟨vs, e, q⟩ := r; exact ⟨vs, e, q.fr hf⟩
  | dctT ds => obtain ⟨vs, e, q⟩ := r; exact ⟨vs, e, q.fr hf⟩
  | dctN ds => obtain ⟨vs, e, q⟩ := r; exact ⟨vs, e, q.1, RDs.fr hf _ _ q.2.1, RDs.fr hf _ _ q.2.2⟩
  | ins _ _ => exact r.elim
  | dead => exact r.elim
/-- an object of our own is set aside while it is made -/
theorem HR.aside (r : HR K Fr ρ h H) {p : Addr} {o : HO} (hp : H p = none) (ht : isTb o = false := by rfl) : HR K (p :: Fr) ρ h (upd H p o) := by
  have hf : ∀ a ∈ p :: Fr, a ∈ Fr ∨ H a = none := fun a ha => (List.mem_cons.mp ha).elim (fun e => .inr (e ▸ hp)) .inl
  have r' := r.new (o := o) hp
  refine ⟨r.len, r.nd, fun a ha => ?_, r'.tb, fun a ha z => ?_, fun n u e => ?_⟩
  · rcases List.mem_cons.mp ha with rfl | ha
    · exact ⟨o, upd_same, ht⟩
    · exact r'.fr' a ha
  · rcases List.mem_cons.mp z with rfl | z
    · exact (r.fresh hp).1 ha
    · exact r.dj a ha z
  · obtain ⟨a, e1, q⟩ := r.at' n u e
    obtain ⟨u', e'⟩ := q.tracked
    exact ⟨a, e1, (q.fr hf).mono (ext_new hp) (upd_ne (ne_of_none e' hp))⟩
def _root_.L2.HO.nt : HO → Bool
  | .tup _ => false
  | .frz _ _ => false
  | .tbl _ => false
  | .ext _ => false
  | _ => true
theorem tabS_nt {P : Addr} {q : Str} {a : Addr} {o u : HO} (t : LamX.TabS H P q) (e : H a = some u) (hu : u.nt = true) : LamX.TabS (upd H a o) P q := by
  obtain ⟨ps, h1, h2, h3⟩ := t
  refine ⟨ps, ?_, h2, fun pos cv hc => ?_⟩
  · have : P ≠ a := by rintro rfl; rw [h1] at e; cases e; cases hu
    rw [upd_ne this]; exact h1
  · obtain ⟨c, e1, e2⟩ := h3 pos cv hc
    refine ⟨c, e1, ?_⟩
    have : c ≠ a := by rintro rfl; rw [e2] at e; unfold LamX.CodeO at e; cases e; cases hu
    rw [upd_ne this]; exact e2
mutual
theorem RD.alt {p : Addr} {xs : HO} {o : HO} (hp : p ∈ Fr) (nt : xs.nt = true) (hH : H p = some xs) : ∀ (d : D) (v : V), RD K Fr ρ H d v → RD K Fr ρ (upd H p o) d v
  | .non, _, r => r
  | .bl _, _, r => r
  | .int _, _, r => r
  | .str _, _, r => r
  | .ktp _, _, r => by
    unfold RD at r ⊢
    obtain ⟨a, e, k⟩ := r
    refine ⟨a, e, k.imp (fun k => ⟨?_, k.2⟩) id⟩
    obtain ⟨o', k1, d⟩ := k.1
    exact ⟨o', by rw [upd_ne (ne_of k1 hH (by intro z; cases z; cases nt))]; exact k1, d⟩
  | .kpp _, _, r => by
    unfold RD at r ⊢
    obtain ⟨a, e, o', qs, k1, d, n, q⟩ := r
    refine ⟨a, e, o', qs, by rw [upd_ne (ne_of k1 hH (by intro z; cases z; cases nt))]; exact k1, d, n, paired_imp q fun z p y => ⟨by rw [upd_ne (ne_of y.1 hH (by intro z; cases z; cases nt))]; exact y.1, y.2⟩⟩
  | .ref n, _, r => by unfold RD at r ⊢; exact r
  | .tup ds, _, r => by
    unfold RD at r ⊢
    obtain ⟨a, vs, e, k, n, q⟩ := r
    exact ⟨a, vs, e, by rw [upd_ne (ne_of k hH (by intro z; cases z; cases nt))]; exact k, n, RDs.alt hp nt hH ds vs q⟩
  | .lst ds, _, r => by
    unfold RD at r ⊢
    obtain ⟨a, vs, e, k, n, nf, q⟩ := r
    have hne : a ≠ p := fun z => nf (z ▸ hp)
    exact ⟨a, vs, e, by rw [upd_ne hne]; exact k, n, nf, RDs.alt hp nt hH ds vs q⟩
  | .scr ns, _, r => by
    unfold RD at r ⊢
    obtain ⟨a, e, k⟩ := r
    refine ⟨a, e, k.imp (fun k => ⟨⟨?_, k.1.2⟩, k.2⟩) id⟩
    have hne : a ≠ p := fun z => k.2 (z ▸ hp)
    rcases k.1.1 with q | ⟨o', q⟩
    · exact .inl (by rw [upd_ne hne]; exact q)
    · exact .inr ⟨o', by rw [upd_ne hne]; exact q⟩
  | .dct ds, _, r => by
    unfold RD at r ⊢
    obtain ⟨a, kvs, e, k, n, nf, q⟩ := r
    have hne : a ≠ p := fun z => nf (z ▸ hp)
    exact ⟨a, kvs, e, by rw [upd_ne hne]; exact k, n, nf, RDs.alt hp nt hH ds _ q⟩
  | .opq _, _, r => by
    unfold RD at r ⊢
    obtain ⟨a, e, n, nf, k⟩ := r
    have hne : a ≠ p := fun z => nf (z ▸ hp)
    exact ⟨a, e, n, nf, k.go fun o e _ => by rw [upd_ne hne]; exact e⟩
  | .exn c ds, _, r => by
    unfold RD at r ⊢
    obtain ⟨vs, k, q⟩ := r
    refine ⟨vs, k.go fun b o n nf e t => ⟨?_, n, nf⟩, RDs.alt hp nt hH ds vs q⟩
    have hne : b ≠ p := fun z => nf (z ▸ hp)
    rw [upd_ne hne]; exact e
theorem RDs.alt {p : Addr} {xs : HO} {o : HO} (hp : p ∈ Fr) (nt : xs.nt = true) (hH : H p = some xs) : ∀ (ds : List D) (vs : List V), RDs K Fr ρ H ds vs → RDs K Fr ρ (upd H p o) ds vs
  | [], _, r => r
  | d :: ds, _, r => by
    unfold RDs at r ⊢
    obtain ⟨v, t, e, k, q⟩ := r
    exact ⟨v, t, e, RD.alt hp nt hH d v k, RDs.alt hp nt hH ds t q⟩
end
theorem KR.alt {κ : Type} {kvs : List (κ × D)} {vs : List (κ × V)} {p : Addr} {xs : HO} {o : HO} (hp : p ∈ Fr) (nt : xs.nt = true) (hH : H p = some xs) (r : KR K Fr ρ H kvs vs) : KR K Fr ρ (upd H p o) kvs vs := ⟨r.1, RDs.alt hp nt hH _ _ r.2⟩
theorem HR.alt (r : HR K Fr ρ h H) {p : Addr} {xs : HO} {o : HO} (hp : p ∈ Fr) (nt : xs.nt = true) (hH : H p = some xs) (ht : isTb o = false := by rfl) : HR K Fr ρ h (upd H p o) := by
  refine ⟨r.len, r.nd, fun a ha => ?_, fun P q l => tabS_nt (r.tb P q l) hH nt, r.dj, fun n u e => ?_⟩
  · by_cases e : a = p
    · rw [e]; exact ⟨o, upd_same, ht⟩
    · obtain ⟨u, q, t⟩ := r.fr' a ha
      exact ⟨u, by rw [upd_ne e]; exact q, t⟩
  · obtain ⟨a, e1, q⟩ := r.at' n u e
    have hne : a ≠ p := fun z => r.dj a (List.mem_of_getElem? e1) (z ▸ hp)
    refine ⟨a, e1, ?_⟩
    cases u with
    | lst ds => obtain ⟨vs, e, q⟩ := q; exact ⟨vs, by rw [upd_ne hne]; exact e, RDs.alt hp nt hH _ _ q⟩
    | dct ds => obtain ⟨vs, e, q⟩ := q; exact ⟨vs, by rw [upd_ne hne]; exact e, q.alt hp nt hH⟩
    | dctT ds => obtain ⟨vs, e, q⟩ := q; exact ⟨vs, by rw [upd_ne hne]; exact e, q.alt hp nt hH⟩
    | dctN ds => obtain ⟨vs, e, q⟩ := q; exact ⟨vs, by rw [upd_ne hne]; exact e, q.1, RDs.alt hp nt hH _ _ q.2.1, RDs.alt hp nt hH _ _ q.2.2⟩
    | ins _ _ => exact q.elim
    | dead => exact q.elim
/-- no longer set aside -/
theorem HR.back (r : HR K Fr ρ h H) (hs : ∀ a ∈ Fr', a ∈ Fr) : HR K Fr' ρ h H :=
  ⟨r.len, r.nd, fun a ha => r.fr' a (hs a ha), r.tb, fun a ha z => r.dj a ha (hs a z), fun n u e => let ⟨a, e1, q⟩ := r.at' n u e; ⟨a, e1, q.fr (sub_fr hs)⟩⟩
mutual
theorem RD.own {p : Addr} {xs : HO} (hp : p ∈ Fr) (nt : xs.nt = true) (hH : H p = some xs) : ∀ (d : D) (v : V), RD K Fr ρ H d v → RD K Fr (ρ ++ [p]) H d v
  | .non, _, r => r
  | .bl _, _, r => r
  | .int _, _, r => r
  | .str _, _, r => r
  | .ktp _, _, r => by
    unfold RD at r ⊢
    obtain ⟨a, e, k⟩ := r
    refine ⟨a, e, k.imp (fun k => ⟨k.1, fun z => ?_⟩) id⟩
    rcases List.mem_append.mp z with z | z
    · exact k.2 z
    · obtain ⟨o', k1, d⟩ := k.1
      exact ne_of k1 hH (by intro z; cases z; cases nt) (List.mem_singleton.mp z)
  | .kpp _, _, r => by
    unfold RD at r ⊢
    obtain ⟨a, e, o', qs, k1, d, n, q⟩ := r
    refine ⟨a, e, o', qs, k1, d, fun z => ?_, paired_imp q fun z p y => ⟨y.1, fun z => ?_⟩⟩
    · rcases List.mem_append.mp z with z | z
      · exact n z
      · exact ne_of k1 hH (by intro z; cases z; cases nt) (List.mem_singleton.mp z)
    · rcases List.mem_append.mp z with z | z
      · exact y.2 z
      · exact ne_of y.1 hH (by intro z; cases z; cases nt) (List.mem_singleton.mp z)
  | .ref n, _, r => by
    unfold RD at r ⊢
    obtain ⟨a, e, k⟩ := r
    exact ⟨a, e, by rw [List.getElem?_append_left (List.getElem?_eq_some_iff.mp k).1]; exact k⟩
  | .tup ds, _, r => by
    unfold RD at r ⊢
    obtain ⟨a, vs, e, k, n, q⟩ := r
    refine ⟨a, vs, e, k, fun z => ?_, RDs.own hp nt hH ds vs q⟩
    rcases List.mem_append.mp z with z | z
    · exact n z
    · exact ne_of k hH (by intro z; cases z; cases nt) (List.mem_singleton.mp z)
  | .lst ds, _, r => by
    unfold RD at r ⊢
    obtain ⟨a, vs, e, k, n, nf, q⟩ := r
    refine ⟨a, vs, e, k, fun z => ?_, nf, RDs.own hp nt hH ds vs q⟩
    rcases List.mem_append.mp z with z | z
    · exact n z
    · rw [List.mem_singleton] at z; exact nf (z ▸ hp)
  | .scr ns, _, r => by
    unfold RD at r ⊢
    obtain ⟨a, e, k⟩ := r
    refine ⟨a, e, k.imp (fun k => ⟨⟨k.1.1, fun z => ?_⟩, k.2⟩) id⟩
    rcases List.mem_append.mp z with z | z
    · exact k.1.2 z
    · rw [List.mem_singleton] at z; exact k.2 (z ▸ hp)
  | .dct ds, _, r => by
    unfold RD at r ⊢
    obtain ⟨a, kvs, e, k, n, nf, q⟩ := r
    refine ⟨a, kvs, e, k, fun z => ?_, nf, RDs.own hp nt hH ds _ q⟩
    rcases List.mem_append.mp z with z | z
    · exact n z
    · rw [List.mem_singleton] at z; exact nf (z ▸ hp)
  | .opq _, _, r => by
    unfold RD at r ⊢
    obtain ⟨a, e, n, nf, k⟩ := r
    refine ⟨a, e, fun z => ?_, nf, k⟩
    rcases List.mem_append.mp z with z | z
    · exact n z
    · rw [List.mem_singleton] at z; exact nf (z ▸ hp)
  | .exn c ds, _, r => by
    unfold RD at r ⊢
    obtain ⟨vs, k, q⟩ := r
    refine ⟨vs, k.go fun b o n nf e t => ⟨e, fun z => ?_, nf⟩, RDs.own hp nt hH ds vs q⟩
    rcases List.mem_append.mp z with z | z
    · exact n z
    · rw [List.mem_singleton] at z; exact nf (z ▸ hp)
theorem RDs.own {p : Addr} {xs : HO} (hp : p ∈ Fr) (nt : xs.nt = true) (hH : H p = some xs) : ∀ (ds : List D) (vs : List V), RDs K Fr ρ H ds vs → RDs K Fr (ρ ++ [p]) H ds vs
  | [], _, r => r
  | d :: ds, _, r => by
    unfold RDs at r ⊢
    obtain ⟨v, t, e, k, q⟩ := r
    exact ⟨v, t, e, RD.own hp nt hH d v k, RDs.own hp nt hH ds t q⟩
end
/-- what was made aside comes to be a cell -/
theorem OR.own {p : Addr} {xs : HO} (hp : p ∈ Fr) (nt : xs.nt = true) (hH : H p = some xs) {o : Ob} {a : Addr} (r : OR K Fr ρ H o a) : OR K Fr (ρ ++ [p]) H o a := by
  cases o with
  | lst ds => obtain ⟨vs, e, q⟩ := r; exact ⟨vs, e, RDs.own hp nt hH _ _ q⟩
  | dct ds => obtain ⟨vs, e, q⟩ := r; exact ⟨vs, e, q.1, RDs.own hp nt hH _ _ q.2⟩
  | dctT ds => obtain ⟨vs, e, q⟩ := r; exact ⟨vs, e, q.1, RDs.own hp nt hH _ _ q.2⟩
  | dctN ds => obtain ⟨vs, e, q⟩ := r; exact ⟨vs, e, q.1, RDs.own hp nt hH _ _ q.2.1, RDs.own hp nt hH _ _ q.2.2⟩
  | ins _ _ => exact r.elim
  | dead => exact r.elim
theorem HR.ownO {p : Addr} {b : Ob} {xs : HO} (r : HR K (p :: Fr) ρ h H) (hf : p ∉ Fr) (nt : xs.nt = true) (hH : H p = some xs) (q : OR K (p :: Fr) ρ H b p) : HR K Fr (ρ ++ [p]) (h ++ [b]) H := by
  have hpF : p ∈ p :: Fr := List.mem_cons_self
  have hs : ∀ a ∈ Fr, a ∈ p :: Fr := fun a ha => List.mem_cons_of_mem _ ha
  have hpρ : p ∉ ρ := fun z => r.dj p z hpF
  refine ⟨by simp [r.len], ?_, fun a ha => r.fr' a (hs a ha), r.tb, fun a ha => ?_, fun n u e => ?_⟩
  · rw [List.nodup_append]
    exact ⟨r.nd, by simp, fun a ha b hb => by rw [List.mem_singleton] at hb; subst hb; rintro rfl; exact hpρ ha⟩
  · rcases List.mem_append.mp ha with z | z
    · exact fun y => r.dj a z (hs a y)
    · rw [List.mem_singleton] at z; subst z; exact hf
  · by_cases hn : n < h.length
    · rw [List.getElem?_append_left hn] at e
      obtain ⟨a, e1, q1⟩ := r.at' n u e
      exact ⟨a, by rw [List.getElem?_append_left (List.getElem?_eq_some_iff.mp e1).1]; exact e1, (OR.own hpF nt hH q1).fr (sub_fr hs)⟩
    · have hn' : n = h.length := by
        have := (List.getElem?_eq_some_iff.mp e).1
        simp at this; omega
      subst hn'
      rw [List.getElem?_append_right (Nat.le_refl _)] at e
      simp at e; subst e
      refine ⟨p, ?_, (OR.own hpF nt hH q).fr (sub_fr hs)⟩
      rw [← r.len, List.getElem?_append_right (Nat.le_refl _)]; simp
theorem HR.own {p : Addr} {ds : List D} {vs : List V} (r : HR K (p :: Fr) ρ h H) (hf : p ∉ Fr) (hH : H p = some (.lst vs)) (q : RDs K (p :: Fr) ρ H ds vs) : HR K Fr (ρ ++ [p]) (h ++ [.lst ds]) H :=
  r.ownO hf rfl hH ⟨vs, hH, q⟩
end

/-! ### what is walked -/
/-- the walk J goes through xs, while the cells of w stand -/
def IW (K : PySem.W.Frag) (Fr : List Addr) (J : L2.It) (ρ0 : List Addr) (H0 : Hp) (xs : List D) (w : Watch) : Prop :=
  ∀ Fr' i ρ H h, (∀ a ∈ Fr', a ∈ Fr ∨ H0 a = none) → Ext ρ0 H0 ρ H → HR K Fr' ρ h H → stands h w = true →
    (∀ d, xs[i]? = some d → J.go i H ∧ ∀ x H', J.yld i H x H' → Ext ρ H ρ H' ∧ HR K Fr' ρ h H' ∧ RD K Fr' ρ H' d x ∧ ∀ a o, H a = some o → H' a = some o) ∧ (i = xs.length → J.stop i H)
def TIk (K : PySem.W.Frag) (W : EK K) (f : Env' → Hq → R Its') : TI := fun σ H R => ∃ Fr ρ s h, HR K Fr ρ h H ∧ SR K Fr ρ H s σ ∧
  okR (fun p => ∀ J ρ' H', Ext ρ H ρ' H' → HR K Fr ρ' p.2.2 H' → IW K Fr J ρ' H' p.1 p.2.1 → R J H') (W.p Fr ρ H σ) (f s h)
def SI (X : Cx) (W : EK X.K) (tg it : Expr) (f : Env' → Hq → R Its') : Prop := PI X tg it (TIk X.K W f)
section
variable {X : Cx} {W : EK X.K} {tg : Expr}
theorem PI.imp {it : Expr} {t t' : TI} (h : PI X tg it t) (i : ∀ σ H Q, t' σ H Q → t σ H Q) : PI X tg it t' := ⟨fun pins s σ H Q I q => h.run pins s σ H Q I (i _ _ _ q)⟩
theorem PI.or {it : Expr} {t t' : TI} (h : PI X tg it t) (h' : PI X tg it t') : PI X tg it (fun σ H R => t σ H R ∨ t' σ H R) := ⟨fun pins s σ H Q I q => q.elim (fun q => h.run pins s σ H Q I q) fun q => h'.run pins s σ H Q I q⟩
/-- a list that stays, one that stands as a cell, a tuple -/
theorem iw_list {K : PySem.W.Frag} {Fr ρ0 : List Addr} {H0 : Hp} {a : Addr} {xs : List D} {w : Watch}
    (at' : ∀ Fr' ρ H h, (∀ a ∈ Fr', a ∈ Fr ∨ H0 a = none) → Ext ρ0 H0 ρ H → HR K Fr' ρ h H → stands h w = true → ∃ vs, SqL K H a vs ∧ RDs K Fr' ρ H xs vs) : IW K Fr (Itl K a) ρ0 H0 xs w := by
  intro Fr' i ρ H h hf x r st
  obtain ⟨vs, s, q⟩ := at' Fr' ρ H h hf x r st
  refine ⟨fun d e => ?_, fun e => ⟨vs, s, by rw [← q.length, e]; exact Nat.le_refl _⟩⟩
  obtain ⟨v, e1, k⟩ := q.get e
  refine ⟨⟨vs, v, s, e1⟩, fun y H' hy => ?_⟩
  obtain ⟨e2, hy⟩ := hy
  subst e2
  have e3 := hy vs s
  rw [e1] at e3
  cases e3
  exact ⟨.refl, r, k, fun _ _ e => e⟩
theorem iw_tup {K : PySem.W.Frag} {Fr ρ0 : List Addr} {H0 : Hp} {a : Addr} {xs : List D} {w : Watch}
    (at' : ∀ Fr' ρ H h, (∀ a ∈ Fr', a ∈ Fr ∨ H0 a = none) → Ext ρ0 H0 ρ H → HR K Fr' ρ h H → stands h w = true → ∃ vs, SqT K H a vs ∧ RDs K Fr' ρ H xs vs) : IW K Fr (Itt K a) ρ0 H0 xs w := by
  intro Fr' i ρ H h hf x r st
  obtain ⟨vs, s, q⟩ := at' Fr' ρ H h hf x r st
  refine ⟨fun d e => ?_, fun e => ⟨vs, s, by rw [← q.length, e]; exact Nat.le_refl _⟩⟩
  obtain ⟨v, e1, k⟩ := q.get e
  refine ⟨⟨vs, v, s, e1⟩, fun y H' hy => ?_⟩
  obtain ⟨e2, hy⟩ := hy
  subst e2
  have e3 := hy vs s
  rw [e1] at e3
  cases e3
  exact ⟨.refl, r, k, fun _ _ e => e⟩
/-- the sequence d, later: as a list or as a tuple -/
theorem lst_later {K : PySem.W.Frag} {Fr ρ0 : List Addr} {H0 : Hp} {h0 : Hq} (r0 : HR K Fr ρ0 h0 H0) {d : D} {v : V} {xs : List D} (k : RD K Fr ρ0 H0 d v) (e : itemsOf h0 d = some xs) (nt : isTupD d = false) :
    ∃ a, v = .ref a ∧ (∃ vs, SqL K H0 a vs) ∧ ∀ w Fr' ρ H h, (∀ p ∈ watchOf d xs, p ∈ w) → (∀ a ∈ Fr', a ∈ Fr ∨ H0 a = none) → Ext ρ0 H0 ρ H → HR K Fr' ρ h H → stands h w = true → ∃ vs, SqL K H a vs ∧ RDs K Fr' ρ H xs vs := by
  cases d with
  | tup ds => cases nt
  | ktp ns => cases nt
  | kpp ns => cases nt
  | lst ds =>
    cases e
    obtain ⟨a, vs, rfl, s0, _⟩ := k.sqL
    refine ⟨a, rfl, ⟨vs, .of s0⟩, fun w Fr' ρ H h hw hf x r st => ?_⟩
    obtain ⟨b, ws, e1, s, q⟩ := (RD.mono x _ _ (RD.fr hf _ _ k)).sqL
    cases e1
    exact ⟨ws, .of s, q⟩
  | scr ns =>
    obtain ⟨a, vs, rfl, s0, _⟩ := r0.sql k (show sqlOf h0 (.scr ns) = some xs from e)
    refine ⟨a, rfl, ⟨vs, s0⟩, fun w Fr' ρ H h hw hf x r st => ?_⟩
    obtain ⟨b, ws, e1, s, q⟩ := r.sql (RD.mono x _ _ (RD.fr hf _ _ k)) (show sqlOf h (.scr ns) = some xs from e)
    cases e1
    exact ⟨ws, s, q⟩
  | ref n =>
    have hn0 : h0[n]? = some (.lst xs) := by
      dsimp only [itemsOf] at e
      split at e
      · rename_i hn; cases e; exact hn
      · cases e
    obtain ⟨a, vs, rfl, _, s0, _⟩ := r0.lst k hn0
    refine ⟨a, rfl, ⟨vs, .of s0⟩, fun w Fr' ρ H h hw hf x r st => ?_⟩
    have hn := stands_at st (n := n) (ds := xs) (hw _ List.mem_cons_self)
    obtain ⟨b, ws, e1, _, s, q⟩ := r.lst (RD.mono x _ _ (RD.fr hf _ _ k)) hn
    cases e1
    exact ⟨ws, .of s, q⟩
  | _ => cases e
theorem tup_later {K : PySem.W.Frag} {Fr ρ0 : List Addr} {H0 : Hp} {h0 : Hq} {d : D} {v : V} {xs : List D} (k : RD K Fr ρ0 H0 d v) (e : itemsOf h0 d = some xs) (nt : isTupD d = true) :
    ∃ a, v = .ref a ∧ (∃ vs, SqT K H0 a vs) ∧ ∀ Fr' ρ H h, (∀ a ∈ Fr', a ∈ Fr ∨ H0 a = none) → Ext ρ0 H0 ρ H → HR K Fr' ρ h H → ∃ vs, SqT K H a vs ∧ RDs K Fr' ρ H xs vs := by
  cases d with
  | tup ds =>
    cases e
    obtain ⟨a, vs, rfl, s0, _⟩ := k.tupl
    refine ⟨a, rfl, ⟨vs, .of s0⟩, fun Fr' ρ H h hf x r => ?_⟩
    obtain ⟨b, ws, e1, s, q⟩ := (RD.mono x _ _ (RD.fr hf _ _ k)).sqT
    cases e1
    exact ⟨ws, s, q⟩
  | ktp ns =>
    cases e
    unfold RD at k
    obtain ⟨a, rfl, k⟩ := k
    exact ⟨a, rfl, ⟨_, k.sqT⟩, fun Fr' ρ H h hf x r => ⟨_, (k.mono x).sqT, RDs.of_ints _⟩⟩
  | kpp ps =>
    cases e
    unfold RD at k
    obtain ⟨a, rfl, k⟩ := k
    obtain ⟨vs, s0, _⟩ := k.rds (K := K) (Fr := Fr)
    exact ⟨a, rfl, ⟨vs, s0⟩, fun Fr' ρ H h hf x r => (k.mono x).rds⟩
  | _ => cases nt
theorem itD_seq {d : D} {h : Hq} {p : Its'} (e : itD d h = some p) (ns : isStrD d = false) : ∃ xs, itemsOf h d = some xs ∧ p = (xs, watchOf d xs, h) := by
  unfold itD at e
  split at e
  · split at e
    · rename_i n ds hn
      cases e
      exact ⟨ds, by dsimp only [itemsOf]; rw [hn], rfl⟩
    · cases e
  · cases ns
  · split at e
    · rename_i hn _ _ ds hd
      cases e
      refine ⟨ds, hd, ?_⟩
      cases d <;> first | rfl | (exact absurd rfl (hn _))
    · cases e
/-- e, a list or a tuple or a text -/
theorem si_ex {e : Expr} {fe : Env' → Hq → R (D × Hq)} (he : SE X W e fe) : SI X W tg e (fun s h => (fe s h).bind fun p => lift (itD p.1 p.2)) := by
  refine PI.imp (PI.or (pi_list he) (PI.or (pi_tup he) (pi_str he))) fun σ H Rr ⟨Fr, ρ, s, h, r, sr, ok⟩ => ?_
  dsimp only at ok
  cases e1 : fe s h with
  | stuck => rw [e1] at ok; exact ok.elim
  | exc a b => rw [e1] at ok; exact .inl ⟨Fr, ρ, s, h, r, sr, by rw [e1]; exact ok⟩
  | ok p =>
    rw [e1] at ok
    obtain ⟨q, e2, k⟩ := okR_lift (show okR _ _ (lift (itD p.1 p.2)) from ok)
    cases hs : isStrD p.1 with
    | true =>
      refine .inr (.inr ⟨Fr, ρ, s, h, r, sr, ?_⟩)
      rw [e1]
      intro v ρ1 H1 x1 r1 d1
      obtain ⟨p1, p2⟩ := p
      dsimp only at hs
      cases p1 with
      | str z =>
        unfold itD at e2
        cases e2
        refine ⟨z, rd_str.mp d1, k _ ρ1 H1 x1 r1 ?_⟩
        intro Fr' i ρ2 H2 h2 hf x r st
        refine ⟨fun d e => ?_, fun e => ?_⟩
        · obtain ⟨c, hc, rfl⟩ : ∃ c, z.cps.toList[i]? = some c ∧ d = .str ⟨#[c]⟩ := by
            rw [List.getElem?_map] at e
            obtain ⟨c, h1, h2⟩ := Option.map_eq_some_iff.mp e
            exact ⟨c, h1, h2.symm⟩
          have hi : i < z.cps.size := by have := (List.getElem?_eq_some_iff.mp hc).1; simpa using this
          refine ⟨hi, fun y H' hy => ?_⟩
          obtain ⟨e3, c', hc', e4⟩ := hy
          subst e3 e4
          have : c' = c := by
            rw [Array.getElem?_toList] at hc
            rw [hc] at hc'; cases hc'; rfl
          subst this
          exact ⟨.refl, r, rd_str.mpr rfl, fun _ _ e => e⟩
        · show z.cps.size ≤ i
          rw [e]; simp
      | _ => cases hs
    | false =>
      obtain ⟨xs, e3, e4⟩ := itD_seq e2 hs
      subst e4
      cases ht : isTupD p.1 with
      | false =>
        refine .inl ⟨Fr, ρ, s, h, r, sr, ?_⟩
        rw [e1]
        intro v ρ1 H1 x1 r1 d1
        obtain ⟨a, e5, e6, e7⟩ := lst_later r1 d1 e3 ht
        exact ⟨a, e5, e6, k _ ρ1 H1 x1 r1 (iw_list fun Fr' ρ H h hf x r st => e7 _ Fr' ρ H h (fun _ m => m) hf x r st)⟩
      | true =>
        refine .inr (.inl ⟨Fr, ρ, s, h, r, sr, ?_⟩)
        rw [e1]
        intro v ρ1 H1 x1 r1 d1
        obtain ⟨a, e5, e6, e7⟩ := tup_later d1 e3 ht
        exact ⟨a, e5, e6, k _ ρ1 H1 x1 r1 (iw_tup fun Fr' ρ H h hf x r st => e7 Fr' ρ H h hf x r)⟩
theorem iw_range {K : PySem.W.Frag} {Fr ρ0 : List Addr} {H0 : Hp} {lo hi : Int} : IW K Fr (Itr lo (hi - lo).toNat) ρ0 H0 (rangeL lo hi) [] := by
  intro Fr' i ρ H h hf x r st
  refine ⟨fun d e => ?_, fun e => ?_⟩
  · unfold rangeL at e
    rw [List.getElem?_map] at e
    obtain ⟨c, h1, h2⟩ := Option.map_eq_some_iff.mp e
    have hc : i < (hi - lo).toNat ∧ c = i := by
      obtain ⟨h3, h4⟩ := List.getElem?_eq_some_iff.mp h1
      simp at h3 h4
      exact ⟨by omega, h4.symm⟩
    refine ⟨hc.1, fun y H' hy => ?_⟩
    obtain ⟨e3, e4⟩ := hy
    subst e3 e4
    rw [← h2, hc.2]
    exact ⟨.refl, r, rd_int.mpr rfl, fun _ _ e => e⟩
  · show (hi - lo).toNat ≤ i
    rw [e]; unfold rangeL; simp
theorem si_range1 {e : Expr} {p pos : Pos} {fe : Env' → Hq → R (D × Hq)} (hg : Gl X "range") (hm : X.mg "range" = none) (he : SE X W e fe) (hs : starEach [e] X.env = [(false, eval e X.env)]) : SI X W tg (.Call (.Name "range" p) [e] [] pos) (fun s h => (fe s h).bind fun p => lift (rng1D p.1 p.2)) := by
  refine PI.imp (pi_range1 hg hm (pa_cons he pa_nil (by rw [hs]; rfl)) hs) fun σ H Rr ⟨Fr, ρ, s, h, r, sr, ok⟩ => ?_
  refine ⟨Fr, ρ, s, h, r, sr, (okR_bind.mp ok).mono (fun p q v ρ1 H1 x1 r1 d1 => ?_) fun _ _ z => z⟩
  obtain ⟨y, e, k⟩ := okR_lift q
  obtain ⟨p1, p2⟩ := p
  dsimp only at e d1
  unfold rng1D at e
  split at e
  · rename_i j
    split at e
    · rename_i hj
      cases e
      refine ⟨j, by rw [rd_int.mp d1], hj.1, hj.2, k _ ρ1 H1 x1 r1 ?_⟩
      have := iw_range (K := X.K) (Fr := Fr) (ρ0 := ρ1) (H0 := H1) (lo := 0) (hi := j)
      simpa using this
    · cases e
  · cases e
theorem si_range2 {a b : Expr} {p pos : Pos} {fa fb : Env' → Hq → R (D × Hq)} (hg : Gl X "range") (hm : X.mg "range" = none) (ha : SE X W a fa) (hb : SE X W b fb) (hs : starEach [a, b] X.env = [(false, eval a X.env), (false, eval b X.env)]) (hs2 : starEach [b] X.env = [(false, eval b X.env)]) :
    SI X W tg (.Call (.Name "range" p) [a, b] [] pos) (fun s h => (fa s h).bind fun p => (fb s p.2).bind fun q => lift (rng2D p.1 q.1 q.2)) := by
  refine PI.imp (pi_range2 hg hm (pa_cons ha (pa_cons hb pa_nil (by rw [hs2]; rfl)) (by rw [hs, hs2])) hs hs2) fun σ H Rr ⟨Fr, ρ, s, h, r, sr, ok⟩ => ?_
  refine ⟨Fr, ρ, s, h, r, sr, (okR_bind.mp ok).mono (fun p q v ρ1 H1 x1 r1 d1 => ?_) fun _ _ z => z⟩
  refine ⟨Fr, ρ1, s, p.2, r1, sr.mono x1, (okR_bind.mp q).mono (fun p' q' w ρ2 H2 x2 r2 d2 => ?_) fun _ _ z => W.mono x1 r1 z⟩
  obtain ⟨y, e, k⟩ := okR_lift q'
  obtain ⟨p1, p2⟩ := p
  obtain ⟨p3, p4⟩ := p'
  dsimp only at e d1 d2
  replace d1 := RD.mono x2 _ _ d1
  unfold rng2D at e
  split at e
  · rename_i i j
    split at e
    · rename_i hj
      cases e
      exact ⟨i, j, by rw [rd_int.mp d1, rd_int.mp d2], hj, k _ ρ2 H2 (x1.step r1 x2) r2 iw_range⟩
    · cases e
  · cases e
end
end FF

/-! FFSE8: targets; comprehensions. -/
namespace FF
open PySem PySem.Spec PyProof.Rows L2

mutual
def Tg.slots : Tg → List Nat
  | .name i => [i]
  | .tup ts => Tgs.slots ts
def Tgs.slots : Tgs → List Nat
  | .nil => []
  | .cons t ts => Tg.slots t ++ Tgs.slots ts
end
theorem wipe_set {vs : List Nat} {i : Nat} {x : Option V} (hi : i ∈ vs) : ∀ (σ : L2.St), wipe (σ.set i x) vs = wipe σ vs := by
  intro σ
  induction vs with
  | nil => cases hi
  | cons v vs ih =>
    unfold wipe
    by_cases e : i ∈ vs
    · rw [ih e]
    · have : i = v := by rcases List.mem_cons.mp hi with h | h; exact h; exact absurd h e
      subst this
      clear ih hi
      have key : ∀ vs : List Nat, i ∉ vs → wipe (σ.set i x) vs = (wipe σ vs).set i x := by
        intro vs
        induction vs with
        | nil => intro _; rfl
        | cons w ws ih =>
          intro h
          unfold wipe
          rw [List.mem_cons, not_or] at h
          rw [ih h.2, List.set_comm _ _ (fun z => h.1 z)]
      rw [key vs e]
      simp
theorem wipe_comm {vs : List Nat} {i : Nat} (σ : L2.St) : wipe (σ.set i none) vs = (wipe σ vs).set i none := by
  induction vs with
  | nil => rfl
  | cons v vs ih =>
    unfold wipe
    rw [ih]
    by_cases e : v = i
    · rw [e]
    · rw [List.set_comm _ _ (fun z => e z.symm)]
theorem wipe_idem (σ : L2.St) : ∀ vs : List Nat, wipe (wipe σ vs) vs = wipe σ vs := by
  intro vs
  induction vs with
  | nil => rfl
  | cons v vs ih =>
    show (wipe ((wipe σ vs).set v none) vs).set v none = (wipe σ vs).set v none
    rw [wipe_comm, ih]
    simp
section
variable {K : PySem.W.Frag} {Fr ρ : List Addr} {H : Hp}
theorem SR.set {s : Env'} {σ : L2.St} {i : Nat} {d : D} {v : V} (r : SR K Fr ρ H s σ) (k : RD K Fr ρ H d v) : SR K Fr ρ H (s.set i (some d)) (σ.set i (some v)) := by
  refine ⟨by simp [r.len], fun j e h => ?_⟩
  by_cases hj : i = j
  · subst hj
    have hl : i < s.length := by have := (List.getElem?_eq_some_iff.mp h).1; simpa using this
    rw [List.getElem?_set_self hl] at h
    cases h
    exact ⟨v, List.getElem?_set_self (by rw [← r.len]; exact hl), k⟩
  · rw [List.getElem?_set_ne hj] at h
    obtain ⟨w, e1, q⟩ := r.get j e h
    exact ⟨w, by rw [List.getElem?_set_ne hj]; exact e1, q⟩
theorem SR.unset {s : Env'} {σ : L2.St} {i : Nat} (r : SR K Fr ρ H s σ) : SR K Fr ρ H (s.set i none) (σ.set i none) := by
  refine ⟨by simp [r.len], fun j e h => ?_⟩
  by_cases hj : i = j
  · subst hj
    have hl : i < s.length := by have := (List.getElem?_eq_some_iff.mp h).1; simpa using this
    rw [List.getElem?_set_self hl] at h
    cases h
  · rw [List.getElem?_set_ne hj] at h
    obtain ⟨w, e1, q⟩ := r.get j e h
    exact ⟨w, by rw [List.getElem?_set_ne hj]; exact e1, q⟩
theorem SR.wipe {s : Env'} {σ : L2.St} (r : SR K Fr ρ H s σ) : ∀ vs : List Nat, SR K Fr ρ H (wipe' s vs) (L2.wipe σ vs)
  | [] => r
  | v :: vs => SR.unset (SR.wipe r vs)
end
/-- the old slots but those of a target -/
def Only' (σ σ' : L2.St) (is : List Nat) : Prop := ∀ vs : List Nat, (∀ i ∈ is, i ∈ vs) → L2.wipe σ' vs = L2.wipe σ vs
def TGk (K : PySem.W.Frag) (c : Tg) : TG := fun v σ H Q => ∃ Fr ρ h s d s', HR K Fr ρ h H ∧ SR K Fr ρ H s σ ∧ RD K Fr ρ H d v ∧ asg c d s = some s' ∧ ∀ σ', SR K Fr ρ H s' σ' → Only' σ σ' c.slots → Q σ' H
def TGks (K : PySem.W.Frag) (c : Tgs) : TGs := fun vs σ H Q => ∃ Fr ρ h s ds s', HR K Fr ρ h H ∧ SR K Fr ρ H s σ ∧ RDs K Fr ρ H ds vs ∧ asgs c ds s = some s' ∧ ∀ σ', SR K Fr ρ H s' σ' → Only' σ σ' c.slots → Q σ' H
def SG (X : Cx) (tg : Expr) (c : Tg) : Prop := PG X tg (TGk X.K c)
def SGs (X : Cx) (tgs : List Expr) (c : Tgs) : Prop := PGs X tgs (TGks X.K c)
section
variable {X : Cx} {W : EK X.K}
theorem PG.imp {e : Expr} {t t' : TG} (h : PG X e t) (i : ∀ v σ H Q, t' v σ H Q → t v σ H Q) : PG X e t' := ⟨fun pins s σ H v u Q I r q => h.run pins s σ H v u Q I r (i _ _ _ _ q)⟩
theorem PGs.imp {e : List Expr} {t t' : TGs} (h : PGs X e t) (i : ∀ v σ H Q, t' v σ H Q → t v σ H Q) : PGs X e t' := ⟨fun pins s σ H v u Q I r q => h.run pins s σ H v u Q I r (i _ _ _ _ q)⟩
theorem sg_name {x : Str} {pos : Pos} {i : Nat} (hN : X.N.Nodup) (hi : X.N[i]? = some x) (hx : Loc X.env.scope x) (hf : X.fn x = true ∨ X.env.scope.names.lookup x = some .local) : SG X (.Name x pos) (.name i) := by
  refine PG.imp (pg_name hN hi hx hf) fun v σ H Q ⟨Fr, ρ, h, s, d, s', r, sr, k, e, q⟩ => ?_
  unfold asg at e
  split at e
  · cases e
    exact q _ (sr.set k) fun vs hv => wipe_set (hv i List.mem_cons_self) σ
  · cases e
theorem sgs_nil : SGs X [] .nil := by
  refine PGs.imp pgs_nil fun vs σ H Q ⟨Fr, ρ, h, s, ds, s', r, sr, k, e, q⟩ => ?_
  cases ds with
  | nil =>
    unfold asgs at e
    cases e
    unfold RDs at k
    exact ⟨k, q σ sr fun _ _ => rfl⟩
  | cons _ _ => unfold asgs at e; cases e
theorem sgs_cons {e : Expr} {es : List Expr} {c : Tg} {cs : Tgs} (h1 : SG X e c) (h2 : SGs X es cs) (hs : (assignEach (e :: es) X.env).map (·.2) = assign e X.env :: (assignEach es X.env).map (·.2)) : SGs X (e :: es) (.cons c cs) := by
  refine PGs.imp (pgs_cons h1 h2 hs) fun vs σ H Q ⟨Fr, ρ, h, s, ds, s', r, sr, k, e, q⟩ => ?_
  cases ds with
  | nil => unfold asgs at e; cases e
  | cons d ds =>
    unfold asgs at e
    split at e
    · rename_i s1 e1
      unfold RDs at k
      obtain ⟨v, t, rfl, k1, k2⟩ := k
      refine ⟨v, t, rfl, Fr, ρ, h, s, d, s1, r, sr, k1, e1, fun σ1 sr1 o1 => ?_⟩
      refine ⟨Fr, ρ, h, s1, ds, s', r, sr1, k2, e, fun σ2 sr2 o2 => q σ2 sr2 fun vs hv => ?_⟩
      rw [o2 vs fun i hi => hv i (List.mem_append_right _ hi)]
      exact o1 vs fun i hi => hv i (List.mem_append_left _ hi)
    · cases e
def Tgs.len : Tgs → Nat
  | .nil => 0
  | .cons _ ts => ts.len + 1
theorem asgs_length : ∀ {c : Tgs} {ds : List D} {s s' : Env'}, asgs c ds s = some s' → ds.length = c.len
  | .nil, [], _, _, _ => rfl
  | .nil, _ :: _, _, _, e => by unfold asgs at e; cases e
  | .cons _ _, [], _, _, e => by unfold asgs at e; cases e
  | .cons t ts, d :: ds, s, s', e => by
    unfold asgs at e
    split at e
    · unfold Tgs.len; rw [List.length_cons, asgs_length e]
    · cases e
theorem sg_tup {es : List Expr} {k : Nat} {pos : Pos} {cs : Tgs} (hc : X.calm = true) (h : SGs X es cs) (hn : (assignEach es X.env).length = cs.len) (hst : (assignEach es X.env).findIdx? (·.1) = none) : SG X (.Tuple es k pos) (.tup cs) := by
  refine PG.imp (pg_tup hc h hn hst) fun v σ H Q ⟨Fr, ρ, h, s, d, s', r, sr, k, e, q⟩ => ?_
  cases d with
  | tup ds =>
    unfold asg at e
    dsimp only at e
    obtain ⟨a, vs, rfl, st, rs⟩ := k.sqT
    exact ⟨a, vs, rfl, st, by rw [← rs.length]; exact asgs_length e, Fr, ρ, h, s, ds, s', r, sr, rs, e, q⟩
  | _ => unfold asg at e; cases e

/-! ### comprehensions -/
def STs (X : Cx) (W : EK X.K) (ifs : List Expr) (f : Env' → Hq → R (Bool × Hq)) : Prop := PTs X ifs (TTk X.K W f)
theorem PTs.imp {e : List Expr} {t t' : TT} (h : PTs X e t) (i : ∀ σ H Q, t' σ H Q → t σ H Q) : PTs X e t' := ⟨fun pins s σ H Q I q => h.run pins s σ H Q I (i _ _ _ q)⟩
theorem sts_nil : STs X W [] (fun _ h => .ok (true, h)) := PTs.imp pts_nil fun σ H Q ⟨Fr, ρ, s, h, r, sr, ok⟩ => ok ρ H .refl r
def compD (live : Bool) (c : Tg) (own : List Nat) (fi : Env' → Hq → R Its') (ft : Env' → Hq → R (Bool × Hq)) (fe : Env' → Hq → R (D × Hq)) : Env' → Hq → R (D × Hq) := fun s h =>
  (fi s h).bind fun p => (turns p.2.1 (fun x h => match asg c x (wipe' s own) with
    | some s' => hush ((ft s' h).bind fun b => if b.1 then (fe s' b.2).bind fun y => .ok (some y.1, y.2) else .ok (none, b.2))
    | none => .stuck) p.1 [] p.2.2).bind fun q => lift (mkL live q.1 q.2)
theorem okR_hush {α : Type} {P : α → Prop} {E E' : D → Hq → Prop} {r : R α} (h : okR P E (hush r)) : okR P E' r := by
  cases r with
  | ok a => exact h
  | exc _ _ => exact h.elim
  | stuck => exact h.elim
theorem Ext.alt {ρ ρ' : List Addr} {H H' : Hp} {p : Addr} {o : HO} (x : Ext ρ H ρ' H') (hp : H p = none) : Ext ρ H ρ' (upd H' p o) :=
  ⟨x.more, fun a u n e t => by rw [upd_ne (ne_of_none e hp)]; exact x.keep a u n e t⟩
theorem comp_t {c : Tg} {own : List Nat} {live : Bool} {fi : Env' → Hq → R Its'} {ft : Env' → Hq → R (Bool × Hq)} {fe : Env' → Hq → R (D × Hq)} {σ : L2.St} {H : Hp} {Q : VK} (hsl : ∀ i ∈ c.slots, i ∈ own)
    (t : TEk X.K W (compD live c own fi ft fe) σ H Q) : tLc (TIk X.K W fi) (TGk X.K c) (TTk X.K (EK.none X.K) ft) (TEk X.K (EK.none X.K) fe) own σ H Q := by
  obtain ⟨Fr, ρ, s, h, r, sr, ok⟩ := t
  refine ⟨Fr, ρ, s, h, r, sr, (okR_bind.mp ok).mono (fun p q J ρ1 H1 x1 r1 iw Dd hD => ?_) fun _ _ z => z⟩
  obtain ⟨xs, w, h1⟩ := p
  dsimp only at q r1 iw
  generalize hstep : (fun (x : D) (h : Hq) => match asg c x (wipe' s own) with
    | some s' => hush ((ft s' h).bind fun b => if b.1 then (fe s' b.2).bind fun y => R.ok (some y.1, y.2) else .ok (none, b.2))
    | none => .stuck) = step at q
  have hf : ∀ a ∈ Dd :: Fr, a ∈ Fr ∨ H1 a = none := fun a ha => (List.mem_cons.mp ha).elim (fun e => .inr (e ▸ hD)) .inl
  let Good : Nat → Hp → Prop := fun i H' => ∃ ρ' h' ds vs, Ext ρ1 H1 ρ' H' ∧ HR X.K (Dd :: Fr) ρ' h' H' ∧ H' Dd = some (.lst vs) ∧ RDs X.K (Dd :: Fr) ρ' H' ds vs ∧
    okR (fun q => okR (Kont X.K Fr ρ H Q) (W.p Fr ρ H σ) (lift (mkL live q.1 q.2))) (W.p Fr ρ H σ) (turns w step (xs.drop i) ds h')
  refine ⟨fun i m H' => m = xs.length - i ∧ i ≤ xs.length ∧ Good i H', ⟨xs.length, by simp, Nat.zero_le _, ρ1, h1, [], [], ext_new hD, r1.aside hD, upd_same, RDs.nil, okR_bind.mp q⟩, ?_⟩
  rintro i m H2 ⟨rfl, hle, ρ2, h2, ds, vs, x2, r2, hv, q2, o2⟩
  by_cases hlt : i < xs.length
  · have e0 : xs.drop i = xs[i] :: xs.drop (i + 1) := (List.drop_eq_getElem_cons hlt)
    rw [e0] at o2
    unfold turns at o2
    split at o2
    · rename_i st
      obtain ⟨w1, _⟩ := iw (Dd :: Fr) i ρ2 H2 h2 hf x2 r2 st
      obtain ⟨go, yl⟩ := w1 xs[i] (List.getElem?_eq_getElem hlt)
      refine .inr ⟨go, Good (i + 1), fun H' g => ⟨xs.length - (i + 1), by omega, rfl, hlt, g⟩, fun x H3 hy => ?_⟩
      obtain ⟨x3, r3, d3, kp⟩ := yl x H3 hy
      have o3 := okR_bind.mp o2
      rw [← hstep] at o3
      dsimp only at o3
      have ne1 : Dd ∉ ρ2 := fun z => r2.dj Dd z List.mem_cons_self
      have hv3 := kp _ _ hv
      have x23 : Ext ρ1 H1 ρ2 H3 := x2.step r2 x3
      have sr3 : SR X.K (Dd :: Fr) ρ2 H3 s σ := ((sr.mono x1).fr hf).mono x23
      cases es' : asg c xs[i] (wipe' s own) with
      | some s' =>
        rw [es', hstep] at o3
        dsimp only at o3
        refine ⟨Dd :: Fr, ρ2, h2, wipe' s own, xs[i], s', r3, sr3.wipe _, d3, es', fun σ' sr' on => ⟨?_, ?_⟩⟩
        · have := on own hsl
          rw [this, wipe_idem]
        · have o4 := okR_bind.mp (okR_hush (E' := fun _ _ => False) o3)
          refine ⟨Dd :: Fr, ρ2, s', h2, r3, sr', o4.mono (fun b q4 ρ4 H4 x4 r4 => ?_) fun _ _ z => z⟩
          obtain ⟨b, h4⟩ := b
          have hv4 : H4 Dd = some (.lst vs) := x4.keep Dd _ ne1 hv3
          have ne4 : Dd ∉ ρ4 := fun z => r4.dj Dd z List.mem_cons_self
          cases b with
          | true =>
            rw [if_pos rfl]
            have q4 : okR _ _ ((fe s' h4).bind fun y => R.ok (some y.1, y.2)) := q4
            refine ⟨Dd :: Fr, ρ4, s', h4, r4, sr'.mono x4, (okR_bind.mp q4).mono (fun y q5 v ρ5 H5 x5 r5 d5 => ?_) fun _ _ z => z⟩
            obtain ⟨y, h5⟩ := y
            have hv5 : H5 Dd = some (.lst vs) := x5.keep Dd _ ne4 hv4
            have q5 : okR _ _ (if lineOk (ds.length + 1) = true then turns w step (xs.drop (i + 1)) (ds ++ [y]) h5 else R.stuck) := q5
            split at q5
            · rename_i hl
              have hl' : ds.length + 1 ≤ sizeLine := lineOk_le hl
              have x35 : Ext ρ2 H3 ρ5 H5 := x4.step r4 x5
              refine ⟨vs, hv5, by rw [← q2.length]; omega, ρ5, h5, ds ++ [y], vs ++ [v], (x23.step r3 x35).alt hD, r5.alt List.mem_cons_self rfl hv5, upd_same, ?_, q5⟩
              exact RDs.alt List.mem_cons_self rfl hv5 _ _ ((RDs.mono (x3.step r3 x35) _ _ q2).append (.cons d5 .nil))
            · exact q5.elim
          | false =>
            rw [if_neg Bool.false_ne_true]
            have q4 : okR _ _ (if lineOk (ds.length + 1) = true then turns w step (xs.drop (i + 1)) ds h4 else R.stuck) := q4
            split at q4
            · exact ⟨ρ4, h4, ds, vs, x23.step r3 x4, r4, hv4, RDs.mono (x3.step r3 x4) _ _ q2, q4⟩
            · exact q4.elim
      | none => rw [es'] at o3; exact o3.elim
    · exact o2.elim
  · have hi' : i = xs.length := by omega
    subst hi'
    rw [List.drop_length] at o2
    unfold turns at o2
    split at o2
    · rename_i st
      obtain ⟨_, w2⟩ := iw (Dd :: Fr) _ ρ2 H2 h2 hf x2 r2 st
      refine .inl ⟨w2 rfl, ?_⟩
      obtain ⟨y, e, k⟩ := okR_lift (show okR (Kont X.K Fr ρ H Q) (W.p Fr ρ H σ) (lift (mkL live ds h2)) from o2)
      have nF : Dd ∉ Fr := fun z => by obtain ⟨u, e⟩ := r1.fr Dd z; rw [hD] at e; cases e
      have nρ : Dd ∉ ρ2 := fun z => r2.dj Dd z List.mem_cons_self
      have x12 : Ext ρ H ρ2 H2 := x1.step r1 x2
      have hD0 : ∀ o, H Dd = some o → isTb o = true := by
        intro o e
        cases ht : isTb o with
        | true => rfl
        | false =>
          exfalso
          by_cases z : Dd ∈ ρ
          · obtain ⟨m, em, _⟩ := x1.more
            obtain ⟨u, e'⟩ := r1.tracked (show Dd ∈ ρ1 by rw [em]; exact List.mem_append_left _ z)
            rw [hD] at e'; cases e'
          · have := x1.keep Dd o z e ht; rw [hD] at this; cases this
      unfold mkL at e
      split at e
      · split at e
        · cases e
          refine k _ (ρ2 ++ [Dd]) H2 ⟨?_, fun a o n e t => x12.keep a o n e t⟩ (r2.own nF hv q2) ?_
          · obtain ⟨m, em, hm⟩ := x12.more
            refine ⟨m ++ [Dd], by rw [em, List.append_assoc], fun a ha => ?_⟩
            rcases List.mem_append.mp ha with z | z
            · exact hm a z
            · rw [List.mem_singleton] at z; rw [z]; exact hD0
          · unfold RD
            exact ⟨Dd, rfl, by rw [List.getElem?_append_right (by rw [r2.len]; exact Nat.le_refl _), r2.len]; simp⟩
        · cases e
          refine k _ ρ2 H2 x12 (r2.back fun a ha => List.mem_cons_of_mem _ ha) ?_
          unfold RD
          exact ⟨Dd, vs, rfl, hv, nρ, nF, RDs.fr (sub_fr fun a ha => List.mem_cons_of_mem _ ha) _ _ q2⟩
      · cases e
    · exact o2.elim
theorem se_comp {elt tg iter : Expr} {ifs : List Expr} {scope : Scope} {own : List (Str × Nat)} {pos : Pos} {live : Bool} {c : Tg} {fi : Env' → Hq → R Its'} {ft : Env' → Hq → R (Bool × Hq)} {fe : Env' → Hq → R (D × Hq)}
    (hc : X.calm = true) (hN : X.N.Nodup) (hi : SI X W tg iter fi) (ok : BlkOk X.N X.env.scope scope own)
    (hg : ∀ (s : Shared) (H : Hp) (C : Addr) (cl : List (Str × Addr)) (fp : List Addr), SG (X.blk s H scope (compEnvC scope cl C X.env) fp) tg c)
    (ht : ∀ (s : Shared) (H : Hp) (C : Addr) (cl : List (Str × Addr)) (fp : List Addr), STs (X.blk s H scope (compEnvC scope cl C X.env) fp) (EK.none X.K) ifs ft)
    (he : ∀ (s : Shared) (H : Hp) (C : Addr) (cl : List (Str × Addr)) (fp : List Addr), SE (X.blk s H scope (compEnvC scope cl C X.env) fp) (EK.none X.K) elt fe)
    (hs : ∀ x, foldedSetIterable iter X.env x = pure x) (hsl : ∀ i ∈ c.slots, i ∈ own.map (·.2)) :
    SE X W (.ListComp elt [⟨tg, iter, ifs, 0⟩] scope pos) (compD live c (own.map (·.2)) fi ft fe) :=
  PE.imp (pe_lc (g := TGk X.K c) (tt := TTk X.K (EK.none X.K) ft) (te := TEk X.K (EK.none X.K) fe) hc hN hi ok hg ht he hs) fun _ _ _ t => comp_t hsl t
end
end FF

/-! FFST: statements. -/
namespace FF
open PySem PySem.Spec PyProof.Rows L2

/-- what leaves does not hang on the slots -/
def EK.flat {K : PySem.W.Frag} (W : EK K) : Prop := ∀ Fr ρ H σ σ' e h, W.p Fr ρ H σ e h → W.p Fr ρ H σ' e h
theorem EK.none_flat {K : PySem.W.Frag} : (EK.none K).flat := fun _ _ _ _ _ _ _ h => h
def KontS (K : PySem.W.Frag) (Fr ρ : List Addr) (H : Hp) (Z : Ends) : Fl → Prop
  | .nx s h => ∀ σ' ρ' H', Ext ρ H ρ' H' → HR K Fr ρ' h H' → SR K Fr ρ' H' s σ' → Z.nx σ' H'
  | .rt d h => ∀ v ρ' H', Ext ρ H ρ' H' → HR K Fr ρ' h H' → RD K Fr ρ' H' d v → Z.rt v H'
  | .bk s h => ∀ σ' ρ' H', Ext ρ H ρ' H' → HR K Fr ρ' h H' → SR K Fr ρ' H' s σ' → Z.bk σ' H'
  | .ct s h => ∀ σ' ρ' H', Ext ρ H ρ' H' → HR K Fr ρ' h H' → SR K Fr ρ' H' s σ' → Z.ct σ' H'
def TSk (K : PySem.W.Frag) (W : EK K) (f : Env' → Hq → R Fl) : TS := fun Z σ H => ∃ Fr ρ s h, HR K Fr ρ h H ∧ SR K Fr ρ H s σ ∧ okR (KontS K Fr ρ H Z) (W.p Fr ρ H σ) (f s h)
def SS (X : Cx) (W : EK X.K) (st : Stmt) (f : Env' → Hq → R Fl) : Prop := PS X st (TSk X.K W f)
def SB (X : Cx) (W : EK X.K) (st : List Stmt) (f : Env' → Hq → R Fl) : Prop := PSs X st (TSk X.K W f)
section
variable {X : Cx} {W : EK X.K} {pos : Pos}
theorem KontS.mono {K : PySem.W.Frag} {Fr ρ ρ1 : List Addr} {H H1 : Hp} {h1 : Hq} {Z : Ends} {f : Fl} (k : KontS K Fr ρ H Z f) (x : Ext ρ H ρ1 H1) (r : HR K Fr ρ1 h1 H1) : KontS K Fr ρ1 H1 Z f := by
  cases f with
  | nx s h => exact fun σ' ρ' H' y r' sr => k σ' ρ' H' (x.step r y) r' sr
  | rt d h => exact fun v ρ' H' y r' sr => k v ρ' H' (x.step r y) r' sr
  | bk s h => exact fun σ' ρ' H' y r' sr => k σ' ρ' H' (x.step r y) r' sr
  | ct s h => exact fun σ' ρ' H' y r' sr => k σ' ρ' H' (x.step r y) r' sr

/-! ### blocks -/
theorem sb_nil : SB X W [] (fun s h => .ok (.nx s h)) := PSs.imp pss_nil fun Z σ H ⟨Fr, ρ, s, h, r, sr, ok⟩ => ok σ ρ H .refl r sr
def seqF (g : Env' → Hq → R Fl) : Fl → R Fl
  | .nx s h => g s h
  | f => .ok f
theorem sb_cons {a : Stmt} {rest : List Stmt} {f g : Env' → Hq → R Fl} (hW : W.flat) (h1 : SS X W a f) (h2 : SB X W rest g) : SB X W (a :: rest) (fun s h => (f s h).bind (seqF g)) := by
  refine PSs.imp (pss_cons h1 h2) fun Z σ H ⟨Fr, ρ, s, h, r, sr, ok⟩ => ⟨Fr, ρ, s, h, r, sr, (okR_bind.mp ok).mono (fun p q => ?_) fun _ _ z => z⟩
  cases p with
  | nx s1 h1 =>
    intro σ1 ρ1 H1 x1 r1 sr1
    have q : okR _ _ (g s1 h1) := q
    exact ⟨Fr, ρ1, s1, h1, r1, sr1, q.mono (fun f k => k.mono x1 r1) fun e h z => W.mono x1 r1 (hW _ _ _ _ _ _ _ z)⟩
  | rt _ _ => exact q
  | bk _ _ => exact q
  | ct _ _ => exact q
theorem ss_expr {e : Expr} {fe : Env' → Hq → R (D × Hq)} (he : SE X W e fe) (hs : swapsWith e none pos.line X.env = pure false) : SS X W (.Expr e pos) (fun s h => (fe s h).bind fun p => .ok (.nx s p.2)) := by
  refine PS.imp (ps_expr he hs) fun Z σ H ⟨Fr, ρ, s, h, r, sr, ok⟩ => ⟨Fr, ρ, s, h, r, sr, (okR_bind.mp ok).mono (fun p q v ρ1 H1 x1 r1 d1 => ?_) fun _ _ z => z⟩
  exact q σ ρ1 H1 x1 r1 (sr.mono x1)
theorem ss_ret {e : Expr} {fe : Env' → Hq → R (D × Hq)} (he : SE X W e fe) : SS X W (.Return (some e) pos) (fun s h => (fe s h).bind fun p => .ok (.rt p.1 p.2)) := by
  refine PS.imp (ps_ret he) fun Z σ H ⟨Fr, ρ, s, h, r, sr, ok⟩ => ⟨Fr, ρ, s, h, r, sr, (okR_bind.mp ok).mono (fun p q v ρ1 H1 x1 r1 d1 => ?_) fun _ _ z => z⟩
  exact q v ρ1 H1 x1 r1 d1
theorem ss_if {c : Expr} {a b : List Stmt} {ft : Env' → Hq → R (Bool × Hq)} {fa fb : Env' → Hq → R Fl} (hc : ST X W c ft) (ha : SB X W a fa) (hb : SB X W b fb) :
    SS X W (.If c a b pos) (fun s h => (ft s h).bind fun p => if p.1 then fa s p.2 else fb s p.2) := by
  refine PS.imp (ps_if hc ha hb) fun Z σ H ⟨Fr, ρ, s, h, r, sr, ok⟩ => ⟨Fr, ρ, s, h, r, sr, (okR_bind.mp ok).mono (fun p q ρ1 H1 x1 r1 => ?_) fun _ _ z => z⟩
  obtain ⟨b1, h1⟩ := p
  cases b1 with
  | true => exact ⟨Fr, ρ1, s, h1, r1, sr.mono x1, (show okR _ _ (fa s h1) from q).mono (fun f k => k.mono x1 r1) fun e h z => W.mono x1 r1 z⟩
  | false => exact ⟨Fr, ρ1, s, h1, r1, sr.mono x1, (show okR _ _ (fb s h1) from q).mono (fun f k => k.mono x1 r1) fun e h z => W.mono x1 r1 z⟩

/-! ### assignments -/
def asgF (c : Tg) (p : D × Hq) (s : Env') : R Fl := match asg c p.1 s with | some s' => .ok (.nx s' p.2) | none => .stuck
theorem asg_t {c : Tg} {fe : Env' → Hq → R (D × Hq)} {Z : Ends} {σ : L2.St} {H : Hp} (t : TSk X.K W (fun s h => (fe s h).bind fun p => asgF c p s) Z σ H) : tAsg (TEk X.K W fe) (TGk X.K c) Z σ H := by
  obtain ⟨Fr, ρ, s, h, r, sr, ok⟩ := t
  refine ⟨Fr, ρ, s, h, r, sr, (okR_bind.mp ok).mono (fun p q v ρ1 H1 x1 r1 d1 => ?_) fun _ _ z => z⟩
  unfold asgF at q
  cases e : asg c p.1 s with
  | none => rw [e] at q; exact q.elim
  | some s' =>
    rw [e] at q
    exact ⟨Fr, ρ1, p.2, s, p.1, s', r1, sr.mono x1, d1, e, fun σ' sr' _ => q σ' ρ1 H1 x1 r1 sr'⟩
theorem ss_asg {tg e : Expr} {c : Tg} {fe : Env' → Hq → R (D × Hq)} (he : SE X W e fe) (hg : SG X tg c) (hs : swapsWithSole [tg] e pos.line X.env = pure false) (hw : swappedStores [tg] e X.env = pure none)
    (h1 : (assignEach [tg] X.env).map (·.2) = [assign tg X.env]) : SS X W (.Assign [tg] e pos) (fun s h => (fe s h).bind fun p => asgF c p s) :=
  PS.imp (ps_asg he hg hs hw h1) fun _ _ _ t => asg_t t
theorem ss_setLc {i : Nat} {y : Str} {py : Pos} {elt tg iter : Expr} {ifs : List Expr} {scope : Scope} {own : List (Str × Nat)} {spos : Pos} {live : Bool} {c : Tg} {fi : Env' → Hq → R Its'} {ft : Env' → Hq → R (Bool × Hq)} {fe : Env' → Hq → R (D × Hq)}
    (hc : X.calm = true) (hN : X.N.Nodup) (hy : X.N[i]? = some y) (hyl : X.env.scope.names.lookup y = some .local)
    (hsw : swapsWith (.ListComp elt [⟨tg, iter, ifs, 0⟩] scope pos) (some (.Name y py)) spos.line X.env = pure true) (hi : SI X W tg iter fi) (ok : BlkOk X.N X.env.scope scope own)
    (hg : ∀ (s : Shared) (H : Hp) (C : Addr) (cl : List (Str × Addr)) (fp : List Addr), SG (X.blk s H scope (compEnvC scope cl C X.env) fp) tg c)
    (ht : ∀ (s : Shared) (H : Hp) (C : Addr) (cl : List (Str × Addr)) (fp : List Addr), STs (X.blk s H scope (compEnvC scope cl C X.env) fp) (EK.none X.K) ifs ft)
    (he : ∀ (s : Shared) (H : Hp) (C : Addr) (cl : List (Str × Addr)) (fp : List Addr), SE (X.blk s H scope (compEnvC scope cl C X.env) fp) (EK.none X.K) elt fe)
    (hs : ∀ x, foldedSetIterable iter X.env x = pure x) (hsl : ∀ i ∈ c.slots, i ∈ own.map (·.2)) :
    SS X W (.Assign [.Name y py] (.ListComp elt [⟨tg, iter, ifs, 0⟩] scope pos) spos) (fun s h => (compD live c (own.map (·.2)) fi ft fe s h).bind fun p => asgF (.name i) p s) := by
  refine PS.imp (ps_setLc (g := TGk X.K c) (tt := TTk X.K (EK.none X.K) ft) (te := TEk X.K (EK.none X.K) fe) hc hN hy hyl hsw hi ok hg ht he hs) fun Z σ H ⟨Fr, ρ, s, h, r, sr, ok⟩ => ?_
  refine comp_t (live := live) hsl ⟨Fr, ρ, s, h, r, sr, (okR_bind.mp ok).mono (fun p q v ρ1 H1 x1 r1 d1 => ?_) fun _ _ z => z⟩
  unfold asgF asg at q
  split at q
  · rename_i s' e
    split at e
    · cases e
      exact q _ ρ1 H1 x1 r1 ((sr.mono x1).set d1)
    · cases e
  · exact q.elim
def tupF (p : List D × Hq) : R (D × Hq) := lift (mkT p.1 p.2)
theorem mkT_some {ds : List D} {h : Hq} {p : D × Hq} (e : mkT ds h = some p) : p = (.tup ds, h) := by
  unfold mkT at e
  split at e
  · cases e; rfl
  · cases e
theorem ss_par {i j : Nat} {x y : Str} {a b : Expr} {px py pt : Pos} {kt k2 pt2} {fs : Env' → Hq → R (List D × Hq)} (hc : X.calm = true) (hN : X.N.Nodup) (hi : X.N[i]? = some x) (hj : X.N[j]? = some y) (hij : i ≠ j)
    (hx : X.env.scope.names.lookup x = some .local) (hy : X.env.scope.names.lookup y = some .local) (ha : SA X W [a, b] fs)
    (hw : swappedStores [.Tuple [.Name x px, .Name y py] kt pt] (.Tuple [a, b] k2 pt2) X.env = pure (some [x, y]))
    (hs : swapsWithSole [.Tuple [.Name x px, .Name y py] kt pt] (.Tuple [a, b] k2 pt2) pos.line X.env = pure false) :
    SS X W (.Assign [.Tuple [.Name x px, .Name y py] kt pt] (.Tuple [a, b] k2 pt2) pos) (fun s h => ((fs s h).bind tupF).bind fun p => asgF (.tup (.cons (.name i) (.cons (.name j) .nil))) p s) := by
  refine PS.imp (ps_par hc hN hi hj hij hx hy ha hw hs) fun Z σ H ⟨Fr, ρ, s, h, r, sr, ok⟩ => ⟨Fr, ρ, s, h, r, sr, (okR_bind.mp (okR_bind.mp ok)).mono (fun p q vs ρ1 H1 x1 r1 d1 => ?_) fun _ _ z => z⟩
  obtain ⟨p', e, k⟩ := okR_lift (show okR _ _ (lift (mkT p.1 p.2)) from q)
  have := mkT_some e
  subst this
  unfold asgF at k
  dsimp only at k
  cases e2 : asg (.tup (.cons (.name i) (.cons (.name j) .nil))) (.tup p.1) s with
  | none => rw [e2] at k; exact k.elim
  | some s' =>
    rw [e2] at k
    obtain ⟨ds, h1⟩ := p
    simp only [asg] at e2
    match ds, e2, d1 with
    | [], e2, _ => cases e2
    | [_], e2, _ => simp only [asgs, asg] at e2; split at e2 <;> simp at e2
    | _ :: _ :: _ :: _, e2, _ => simp only [asgs, asg] at e2; split at e2 <;> (try split at e2) <;> simp at e2
    | [d, d'], e2, d1 =>
      unfold RDs at d1
      obtain ⟨v, t, rfl, k1, d1⟩ := d1
      unfold RDs at d1
      obtain ⟨w, t, rfl, k2, d1⟩ := d1
      unfold RDs at d1
      subst d1
      refine ⟨v, w, rfl, ?_⟩
      simp only [asgs, asg] at e2
      split at e2
      · rename_i s2 e3
        split at e3
        · cases e3
          split at e2
          · rename_i s3 e4
            cases e2
            split at e4
            · cases e4
              exact k _ ρ1 H1 x1 r1 (((sr.mono x1).set k1).set k2)
            · cases e4
          · cases e2
        · cases e3
      · cases e2
/-- o[i] = e -/
theorem ss_setIx {o i e : Expr} {tpos : Pos} {fo fi fe : Env' → Hq → R (D × Hq)} (hset : PSet X (rSetD X.K)) (he : SE X W e fe) (ho : SE X (EK.none X.K) o fo) (hi : SE X (EK.none X.K) i fi) (hs : swapsWithSole [.Subscript o i tpos] e pos.line X.env = pure false) (hw : swappedStores [.Subscript o i tpos] e X.env = pure none)
    (h1 : (assignEach [.Subscript o i tpos] X.env).map (·.2) = [assign (.Subscript o i tpos) X.env])
    (ha : ∀ v, assign (.Subscript o i tpos) X.env v = (do
      let ov ← holding [v] (eval o X.env)
      let iv ← holding [v, ov] (eval i X.env)
      standAt tpos
      holding [v, ov, iv] (setItem ov iv v)
      release [v, ov, iv] [])) :
    SS X W (.Assign [.Subscript o i tpos] e pos) (fun s h => (fe s h).bind fun v => (hush (fo s v.2)).bind fun x => (hush (fi s x.2)).bind fun k => (lift (setD x.1 k.1 v.1 k.2)).bind fun h => .ok (.nx s h)) := by
  refine PS.imp (ps_asg he (pg_sub ho hi hset ha) hs hw h1) fun Z σ H ⟨Fr, ρ, s, h, r, sr, ok⟩ => ⟨Fr, ρ, s, h, r, sr, (okR_bind.mp ok).mono (fun p q v ρ1 H1 x1 r1 d1 => ?_) fun _ _ z => z⟩
  refine ⟨Fr, ρ1, s, p.2, r1, sr.mono x1, (okR_hush (E' := fun _ _ => False) (okR_bind.mp q)).mono (fun p2 q2 v2 ρ2 H2 x2 r2 d2 => ?_) fun _ _ z => z⟩
  refine ⟨Fr, ρ2, s, p2.2, r2, (sr.mono x1).mono x2, (okR_hush (E' := fun _ _ => False) (okR_bind.mp q2)).mono (fun p3 q3 v3 ρ3 H3 x3 r3 d3 => ?_) fun _ _ z => z⟩
  obtain ⟨h4, e4, k4⟩ := okR_lift (okR_bind.mp q3)
  have x13 := x2.step r2 x3
  exact ⟨Fr, ρ3, p3.2, p2.1, p3.1, p.1, r3, RD.mono x3 _ _ d2, d3, RD.mono x13 _ _ d1, h4, e4, fun ρ' H' x' r' => k4 σ ρ' H' (((x1.step r1 x13).step r3 x')) r' (((sr.mono x1).mono x13).mono x')⟩
end
end FF

/-! FFST2: loops. -/
namespace FF
open PySem PySem.Spec PyProof.Rows L2
section
variable {X : Cx} {W : EK X.K} {pos : Pos}
def stepF (c : Tg) (fb : Env' → Hq → R Fl) : D → Env' → Hq → R Fl := fun x s h => match asg c x s with | some s' => fb s' h | none => .stuck
theorem ss_for {tg iter : Expr} {body : List Stmt} {c : Tg} {fi : Env' → Hq → R Its'} {fb : Env' → Hq → R Fl} (hW : W.flat) (hp : PassesOwn (model X.prog X.w) X.A X.env X.xe) (hc : X.calm = true) (hi : SI X W tg iter fi) (hg : SG X tg c) (hb : SB X W body fb)
    (hs : ∀ x, foldedSetIterable iter X.env x = pure x) : SS X W (.For tg iter body [] pos) (fun s h => (fi s h).bind fun p => loopF p.2.1 (stepF c fb) p.1 s p.2.2) := by
  refine PS.imp (ps_for hp hc hi hg hb hs) fun Z σ H ⟨Fr, ρ, s, h, r, sr, ok⟩ => ?_
  refine ⟨Fr, ρ, s, h, r, sr, (okR_bind.mp ok).mono (fun p q J ρ1 H1 x1 r1 iw => ?_) fun _ _ z => z⟩
  obtain ⟨xs, w, h1⟩ := p
  dsimp only at q r1 iw
  refine ⟨fun i m σ' H' => m = xs.length - i ∧ i ≤ xs.length ∧ ∃ ρ' s' h', Ext ρ1 H1 ρ' H' ∧ HR X.K Fr ρ' h' H' ∧ SR X.K Fr ρ' H' s' σ' ∧ okR (KontS X.K Fr ρ H Z) (W.p Fr ρ H σ) (loopF w (stepF c fb) (xs.drop i) s' h'),
    ⟨_, rfl, Nat.zero_le _, ρ1, s, h1, .refl, r1, sr.mono x1, q⟩, ?_⟩
  rintro i m σ2 H2 ⟨rfl, hle, ρ2, s2, h2, x2, r2, sr2, o2⟩
  by_cases hlt : i < xs.length
  · have e0 : xs.drop i = xs[i] :: xs.drop (i + 1) := (List.drop_eq_getElem_cons hlt)
    rw [e0] at o2
    unfold loopF at o2
    cases st : stands h2 w with
    | false => rw [st] at o2; exact o2.elim
    | true =>
      rw [st, if_pos rfl] at o2
      obtain ⟨w1, _⟩ := iw Fr i ρ2 H2 h2 (fun a ha => .inl ha) x2 r2 st
      obtain ⟨go, yl⟩ := w1 xs[i] (List.getElem?_eq_getElem hlt)
      let Good : L2.St → Hp → Prop := fun σ' H' => ∃ ρ' s' h', Ext ρ1 H1 ρ' H' ∧ HR X.K Fr ρ' h' H' ∧ SR X.K Fr ρ' H' s' σ' ∧ okR (KontS X.K Fr ρ H Z) (W.p Fr ρ H σ) (loopF w (stepF c fb) (xs.drop (i + 1)) s' h')
      refine .inr ⟨go, Good, fun σ' H' g => ⟨xs.length - (i + 1), by omega, rfl, hlt, g⟩, fun x H3 hy => ?_⟩
      obtain ⟨x3, r3, d3, kp⟩ := yl x H3 hy
      have o3 := okR_bind.mp o2
      unfold stepF at o3
      cases es : asg c xs[i] s2 with
      | none => rw [es] at o3; exact o3.elim
      | some s' =>
        rw [es] at o3
        have x13 := x2.step r2 x3
        have x03 := x1.step r1 x13
        refine ⟨Fr, ρ2, h2, s2, xs[i], s', r3, sr2.mono x3, d3, es, fun σ' sr' _ => ?_⟩
        refine ⟨Fr, ρ2, s', h2, r3, sr', (show okR _ _ (fb s' h2) from o3).mono (fun f k => ?_) fun e h z => W.mono x03 r3 (hW _ _ _ _ _ _ _ z)⟩
        cases f with
        | nx s4 h4 => exact fun σ4 ρ4 H4 x4 r4 sr4 => ⟨ρ4, s4, h4, x13.step r3 x4, r4, sr4, k⟩
        | ct s4 h4 => exact fun σ4 ρ4 H4 x4 r4 sr4 => ⟨ρ4, s4, h4, x13.step r3 x4, r4, sr4, k⟩
        | bk s4 h4 => exact fun σ4 ρ4 H4 x4 r4 sr4 => (show KontS X.K Fr ρ H Z (.nx s4 h4) from k) σ4 ρ4 H4 (x03.step r3 x4) r4 sr4
        | rt d h4 => exact fun v ρ4 H4 x4 r4 d4 => (show KontS X.K Fr ρ H Z (.rt d h4) from k) v ρ4 H4 (x03.step r3 x4) r4 d4
  · have hi' : i = xs.length := by omega
    subst hi'
    rw [List.drop_length] at o2
    unfold loopF at o2
    cases st : stands h2 w with
    | false => rw [st] at o2; exact o2.elim
    | true =>
      rw [st, if_pos rfl] at o2
      obtain ⟨_, w2⟩ := iw Fr _ ρ2 H2 h2 (fun a ha => .inl ha) x2 r2 st
      exact .inl ⟨w2 rfl, (show KontS X.K Fr ρ H Z (.nx s2 h2) from o2) σ2 ρ2 H2 (x1.step r1 x2) r2 sr2⟩
end
end FF

/-! FFFn: calls: how cells of a callee are taken away. -/
namespace FF
open PySem PySem.Spec PyProof.Rows L2
section
variable {K : PySem.W.Frag} {Fr ρ ρ' : List Addr} {H H' : Hp} {h h' : Hq}
/-- ρ' is ρ and more, all different -/
structure Pre (Fr ρ ρ' : List Addr) (n : Nat) : Prop where
  more : ∃ m, ρ' = ρ ++ m
  len : ρ.length = n
  nd : ρ'.Nodup
  dj : ∀ a ∈ ρ', a ∉ Fr
theorem Pre.out {n : Nat} (p : Pre Fr ρ ρ' n) {a : Addr} (z : a ∉ ρ') : a ∉ ρ := fun y => by
  obtain ⟨m, e⟩ := p.more
  exact z (by rw [e]; exact List.mem_append_left _ y)
theorem Pre.lo {n k : Nat} (p : Pre Fr ρ ρ' n) {a : Addr} (e : ρ'[k]? = some a) (hk : k < n) : ρ[k]? = some a := by
  obtain ⟨m, rfl⟩ := p.more
  rw [List.getElem?_append_left (by rw [p.len]; exact hk)] at e
  exact e
theorem Pre.hi {n k : Nat} (p : Pre Fr ρ ρ' n) {a : Addr} (e : ρ'[k]? = some a) (hk : ¬ k < n) : a ∉ ρ := by
  obtain ⟨m, rfl⟩ := p.more
  rw [List.getElem?_append_right (by rw [p.len]; omega)] at e
  intro z
  exact (List.nodup_append.mp p.nd).2.2 a z a (List.mem_of_getElem? e) rfl
mutual
theorem RD.under {n : Nat} (p : Pre Fr ρ ρ' n) : ∀ (d : D) (v : V), D.under n d = true → RD K Fr ρ' H d v → RD K Fr ρ H d v
  | .non, _, _, r => r
  | .bl _, _, _, r => r
  | .int _, _, _, r => r
  | .str _, _, _, r => r
  | .tup ds, _, u, r => by
    unfold RD at r ⊢
    unfold D.under at u
    obtain ⟨a, vs, e, k, n, q⟩ := r
    exact ⟨a, vs, e, k, p.out n, RDs.under p ds vs u q⟩
  | .lst ds, _, u, r => by
    unfold RD at r ⊢
    unfold D.under at u
    obtain ⟨a, vs, e, k, n, nf, q⟩ := r
    exact ⟨a, vs, e, k, p.out n, nf, RDs.under p ds vs u q⟩
  | .scr ns, _, _, r => by
    unfold RD at r ⊢
    obtain ⟨a, e, k⟩ := r
    exact ⟨a, e, k.imp (fun k => ⟨⟨k.1.1, p.out k.1.2⟩, k.2⟩) id⟩
  | .ktp ns, _, _, r => by
    unfold RD at r ⊢
    obtain ⟨a, e, k⟩ := r
    exact ⟨a, e, k.imp (fun k => ⟨k.1, p.out k.2⟩) id⟩
  | .kpp ns, _, _, r => by
    unfold RD at r ⊢
    obtain ⟨a, e, o, qs, k, d, n, q⟩ := r
    exact ⟨a, e, o, qs, k, d, p.out n, paired_imp q fun _ _ y => ⟨y.1, p.out y.2⟩⟩
  | .ref n, _, u, r => by
    unfold RD at r ⊢
    unfold D.under at u
    obtain ⟨a, e, k⟩ := r
    exact ⟨a, e, p.lo k (of_decide_eq_true u)⟩
  | .dct ds, _, u, r => by
    unfold RD at r ⊢
    unfold D.under at u
    obtain ⟨a, kvs, e, k, n, nf, q⟩ := r
    exact ⟨a, kvs, e, k, p.out n, nf, RDs.under p ds _ u q⟩
  | .opq _, _, _, r => by
    unfold RD at r ⊢
    obtain ⟨a, e, n, nf, k⟩ := r
    exact ⟨a, e, p.out n, nf, k⟩
  | .exn c ds, _, u, r => by
    unfold RD at r ⊢
    unfold D.under at u
    obtain ⟨vs, k, q⟩ := r
    exact ⟨vs, k.go fun b o n nf e t => ⟨e, p.out n, nf⟩, RDs.under p ds vs u q⟩
theorem RDs.under {n : Nat} (p : Pre Fr ρ ρ' n) : ∀ (ds : List D) (vs : List V), D.unders n ds = true → RDs K Fr ρ' H ds vs → RDs K Fr ρ H ds vs
  | [], _, _, r => r
  | d :: ds, _, u, r => by
    unfold RDs at r ⊢
    unfold D.unders at u
    rw [Bool.and_eq_true] at u
    obtain ⟨v, t, e, k, q⟩ := r
    exact ⟨v, t, e, RD.under p d v u.1 k, RDs.under p ds t u.2 q⟩
end
def Thaws (K : PySem.W.Frag) (Fr ρ ρ' : List Addr) (H : Hp) (g : List D → Option (List D)) : Prop := ∀ ds ds' vs, g ds = some ds' → RDs K Fr ρ' H ds vs → RDs K Fr ρ H ds' vs
theorem map_some' {α β : Type} {f : α → β} {o : Option α} {b : β} (h : o.map f = some b) : ∃ a, o = some a ∧ f a = b := by
  cases o with
  | none => cases h
  | some a => exact ⟨a, rfl, Option.some.inj h⟩
mutual
theorem RD.thaw {n : Nat} (p : Pre Fr ρ ρ' n) (r0 : HR K Fr ρ' h H) {g : List D → Option (List D)} (hg : Thaws K Fr ρ ρ' H g) : ∀ (d d' : D) (v : V), D.thaw n g h d = some d' → RD K Fr ρ' H d v → RD K Fr ρ H d' v
  | .non, _, _, e, r => by unfold D.thaw at e; cases e; exact r
  | .bl _, _, _, e, r => by unfold D.thaw at e; cases e; exact r
  | .int _, _, _, e, r => by unfold D.thaw at e; cases e; exact r
  | .str _, _, _, e, r => by unfold D.thaw at e; cases e; exact r
  | .ktp ns, _, _, e, r => by unfold D.thaw at e; cases e; exact RD.under p (.ktp ns) _ (by unfold D.under; rfl) r
  | .kpp ns, _, _, e, r => by unfold D.thaw at e; cases e; exact RD.under p (.kpp ns) _ (by unfold D.under; rfl) r
  | .scr ns, _, _, e, r => by unfold D.thaw at e; cases e; exact RD.under p (.scr ns) _ (by unfold D.under; rfl) r
  | .tup ds, _, _, e, r => by
    unfold D.thaw at e
    obtain ⟨ds', e1, rfl⟩ := map_some' e
    unfold RD at r ⊢
    obtain ⟨a, vs, e, k, n, q⟩ := r
    exact ⟨a, vs, e, k, p.out n, RDs.thaw p r0 hg ds ds' vs e1 q⟩
  | .lst ds, _, _, e, r => by
    unfold D.thaw at e
    obtain ⟨ds', e1, rfl⟩ := map_some' e
    unfold RD at r ⊢
    obtain ⟨a, vs, e, k, n, nf, q⟩ := r
    exact ⟨a, vs, e, k, p.out n, nf, RDs.thaw p r0 hg ds ds' vs e1 q⟩
  | .dct ds, _, _, e, r => by
    unfold D.thaw at e
    obtain ⟨ds', e1, rfl⟩ := map_some' e
    unfold RD at r ⊢
    obtain ⟨a, kvs, e, k, n, nf, q⟩ := r
    exact ⟨a, kvs, e, k, p.out n, nf, RDs.thaw p r0 hg ds ds' _ e1 q⟩
  | .opq _, _, _, e, r => by
    unfold D.thaw at e
    cases e
    unfold RD at r ⊢
    obtain ⟨a, e, n, nf, k⟩ := r
    exact ⟨a, e, p.out n, nf, k⟩
  | .exn c ds, _, _, e, r => by
    unfold D.thaw at e
    obtain ⟨ds', e1, rfl⟩ := map_some' e
    unfold RD at r ⊢
    obtain ⟨vs, k, q⟩ := r
    exact ⟨vs, k.go fun b o n nf e t => ⟨e, p.out n, nf⟩, RDs.thaw p r0 hg ds ds' vs e1 q⟩
  | .ref k, _, v, e, r => by
    unfold D.thaw at e
    split at e
    · rename_i hk
      cases e
      exact RD.under p (.ref k) v (by unfold D.under; exact decide_eq_true hk) r
    · rename_i hk
      split at e
      · rename_i ds hds
        obtain ⟨ds', e1, rfl⟩ := map_some' e
        obtain ⟨a, vs, rfl, e2, e3, q⟩ := r0.lst r hds
        unfold RD
        exact ⟨a, vs, rfl, e3, p.hi e2 hk, p.dj a (List.mem_of_getElem? e2), hg ds ds' vs e1 q⟩
      · cases e
theorem RDs.thaw {n : Nat} (p : Pre Fr ρ ρ' n) (r0 : HR K Fr ρ' h H) {g : List D → Option (List D)} (hg : Thaws K Fr ρ ρ' H g) : ∀ (ds ds' : List D) (vs : List V), D.thaws n g h ds = some ds' → RDs K Fr ρ' H ds vs → RDs K Fr ρ H ds' vs
  | [], _, _, e, r => by unfold D.thaws at e; cases e; exact r
  | d :: ds, _, _, e, r => by
    unfold D.thaws at e
    split at e
    · rename_i a b e1 e2
      cases e
      unfold RDs at r ⊢
      obtain ⟨v, t, e, k, q⟩ := r
      exact ⟨v, t, e, RD.thaw p r0 hg d a v e1 k, RDs.thaw p r0 hg ds b t e2 q⟩
    · cases e
end
theorem thawN_ok {n : Nat} (p : Pre Fr ρ ρ' n) (r0 : HR K Fr ρ' h H) : ∀ k, Thaws K Fr ρ ρ' H (thawN n h k)
  | 0 => fun ds ds' vs e r => by
    unfold thawN at e
    split at e
    · rename_i u; cases e; exact RDs.under p _ _ u r
    · cases e
  | k + 1 => fun ds ds' vs e r => RDs.thaw p r0 (thawN_ok p r0 k) ds ds' vs e r
theorem RD.thaw1 {n : Nat} (p : Pre Fr ρ ρ' n) (r0 : HR K Fr ρ' h H) {d y : D} {v : V} (e : FF.thaw1 n h d = some y) (r : RD K Fr ρ' H d v) : RD K Fr ρ H y v := by
  unfold FF.thaw1 at e
  split at e
  · rename_i x hx
    cases e
    have q := thawN_ok p r0 3 [d] [y] [v] hx (.cons r .nil)
    unfold RDs at q
    obtain ⟨v', t, e, k, q⟩ := q
    cases e
    exact k
  · cases e
theorem pre_of (r : HR K Fr ρ h H) (x : Ext ρ H ρ' H') (r' : HR K Fr ρ' h' H') : Pre Fr ρ ρ' h.length := ⟨let ⟨m, e, _⟩ := x.more; ⟨m, e⟩, r.len, r'.nd, r'.dj⟩
theorem Ext.flat (x : Ext ρ H ρ' H') : Ext ρ H ρ H' := ⟨⟨[], by simp, by simp⟩, fun a o n e t => x.keep a o n e t⟩
/-- the cells of ahead, as they came to be -/
theorem HR.cut (r : HR K Fr ρ h H) (x : Ext ρ H ρ' H') (r' : HR K Fr ρ' h' H') (u : (h'.take h.length).all (Ob.under h.length) = true) : HR K Fr ρ (h'.take h.length) H' := by
  have p := pre_of r x r'
  obtain ⟨m, e⟩ := p.more
  refine ⟨?_, r.nd, r'.fr', r'.tb, fun a ha => r'.dj a (by rw [e]; exact List.mem_append_left _ ha), fun n o ho => ?_⟩
  · rw [List.length_take, ← r'.len, e, List.length_append, r.len]; omega
  · have hn : n < h.length := by
      have := (List.getElem?_eq_some_iff.mp ho).1
      rw [List.length_take] at this; omega
    rw [List.getElem?_take_of_lt hn] at ho
    obtain ⟨a, ea, q⟩ := r'.at' n o ho
    refine ⟨a, p.lo ea hn, ?_⟩
    have hu : Ob.under h.length o = true := by
      rw [List.all_eq_true] at u
      exact u o (List.mem_of_getElem? (by rw [List.getElem?_take_of_lt hn]; exact ho))
    have kr : ∀ {κ : Type} {kvs : List (κ × D)}, (kvs.all fun p => p.2.under h.length) = true → D.unders h.length (kvs.map (·.2)) = true := by
      intro κ kvs
      induction kvs with
      | nil => intro _; rfl
      | cons a t ih =>
        intro h
        rw [List.all_cons, Bool.and_eq_true] at h
        show (D.under _ a.2 && D.unders _ (t.map (·.2))) = true
        rw [h.1, ih h.2]; rfl
    cases o with
    | lst ds =>
      obtain ⟨vs, e1, q⟩ := q
      exact ⟨vs, e1, RDs.under p _ _ hu q⟩
    | dct kvs =>
      obtain ⟨vs, e1, q1, q2⟩ := q
      exact ⟨vs, e1, q1, RDs.under p _ _ (kr hu) q2⟩
    | dctT kvs =>
      obtain ⟨vs, e1, q1, q2⟩ := q
      exact ⟨vs, e1, q1, RDs.under p _ _ (kr hu) q2⟩
    | dctN kvs =>
      obtain ⟨vs, e1, q1, q2, q3⟩ := q
      have hn1 : ∀ kvs : List (D × D), (kvs.all fun p => p.1.under h.length && p.2.under h.length) = true → D.unders h.length (kvs.map (·.1)) = true ∧ D.unders h.length (kvs.map (·.2)) = true := by
        intro kvs
        induction kvs with
        | nil => intro _; exact ⟨rfl, rfl⟩
        | cons a t ih =>
          intro z
          rw [List.all_cons, Bool.and_eq_true, Bool.and_eq_true] at z
          obtain ⟨i1, i2⟩ := ih z.2
          refine ⟨?_, ?_⟩
          · show (D.under _ a.1 && D.unders _ (t.map (·.1))) = true
            rw [z.1.1, i1]; rfl
          · show (D.under _ a.2 && D.unders _ (t.map (·.2))) = true
            rw [z.1.2, i2]; rfl
      exact ⟨vs, e1, q1, RDs.under p _ _ (hn1 kvs hu).1 q2, RDs.under p _ _ (hn1 kvs hu).2 q3⟩
    | ins _ _ => exact q.elim
    | dead => exact q.elim
/-! ### a callee with cells of its own alone -/
theorem no_ref {n : Nat} {v : V} (r : RD K Fr [] H (.ref n) v) : False := by
  unfold RD at r
  obtain ⟨a, _, e⟩ := r
  simp at e
theorem notin_cells (r0 : HR K Fr ρ h H) {a : Addr} {u : HO} (k : H a = some u) (hu : isCl u = false) (hx : ∀ xs, u ≠ NDict a xs) : a ∉ ρ := fun z => by
  obtain ⟨v, e, c⟩ := r0.cl z
  rw [k] at e
  cases e
  rcases c with c | ⟨xs, c⟩
  · rw [hu] at c; cases c
  · exact hx xs c
mutual
theorem RD.deep (r0 : HR K Fr ρ h H) : ∀ (d : D) (v : V), RD K (ρ ++ Fr) [] H d v → RD K Fr ρ H d v
  | .non, _, r => r
  | .bl _, _, r => r
  | .int _, _, r => r
  | .str _, _, r => r
  | .tup ds, _, r => by
    unfold RD at r ⊢
    obtain ⟨a, vs, e, k, n, q⟩ := r
    refine ⟨a, vs, e, k, fun z => ?_, RDs.deep r0 ds vs q⟩
    obtain ⟨n, hn, e2⟩ := List.getElem_of_mem z
    have hl : n < h.length := by rw [← r0.len]; exact hn
    obtain ⟨b, e3, o⟩ := r0.at' n h[n] (List.getElem?_eq_getElem hl)
    rw [List.getElem?_eq_getElem hn, e2] at e3
    cases e3
    generalize h[n] = o' at o
    cases o' with
    | lst ds => obtain ⟨vs, e, _⟩ := o; rw [k] at e; cases e
    | dct ds => obtain ⟨vs, e, _⟩ := o; rw [k] at e; cases e
    | dctT ds => obtain ⟨vs, e, _⟩ := o; rw [k] at e; cases e
    | dctN ds => obtain ⟨vs, e, _⟩ := o; rw [k] at e; cases e
    | ins _ _ => exact o.elim
    | dead => exact o.elim
  | .lst ds, _, r => by
    unfold RD at r ⊢
    obtain ⟨a, vs, e, k, n, nf, q⟩ := r
    rw [List.mem_append, not_or] at nf
    exact ⟨a, vs, e, k, nf.1, nf.2, RDs.deep r0 ds vs q⟩
  | .scr ns, _, r => by
    unfold RD at r ⊢
    obtain ⟨a, e, k⟩ := r
    refine ⟨a, e, k.imp (fun k => ?_) id⟩
    have nf := k.2
    rw [List.mem_append, not_or] at nf
    exact ⟨⟨k.1.1, nf.1⟩, nf.2⟩
  | .ktp ns, _, r => by
    unfold RD at r ⊢
    obtain ⟨a, e, k⟩ := r
    refine ⟨a, e, k.imp (fun k => ⟨k.1, fun z => ?_⟩) id⟩
    obtain ⟨o1, k1, _⟩ := k.1
    obtain ⟨n, hn, e2⟩ := List.getElem_of_mem z
    have hl : n < h.length := by rw [← r0.len]; exact hn
    obtain ⟨b, e3, o⟩ := r0.at' n h[n] (List.getElem?_eq_getElem hl)
    rw [List.getElem?_eq_getElem hn, e2] at e3
    cases e3
    generalize h[n] = o' at o
    cases o' with
    | lst ds => obtain ⟨vs, e, _⟩ := o; rw [k1] at e; cases e
    | dct ds => obtain ⟨vs, e, _⟩ := o; rw [k1] at e; cases e
    | dctT ds => obtain ⟨vs, e, _⟩ := o; rw [k1] at e; cases e
    | dctN ds => obtain ⟨vs, e, _⟩ := o; rw [k1] at e; cases e
    | ins _ _ => exact o.elim
    | dead => exact o.elim
  | .kpp ns, _, r => by
    unfold RD at r ⊢
    obtain ⟨a, e, o, qs, k, d, n, q⟩ := r
    exact ⟨a, e, o, qs, k, d, notin_cells r0 k rfl (fun xs z => by unfold NDict at z; cases z), paired_imp q fun _ _ y => ⟨y.1, notin_cells r0 y.1 rfl (fun xs z => by unfold NDict at z; cases z)⟩⟩
  | .ref n, _, r => (no_ref r).elim
  | .dct ds, _, r => by
    unfold RD at r ⊢
    obtain ⟨a, kvs, e, k, n, nf, q⟩ := r
    rw [List.mem_append, not_or] at nf
    exact ⟨a, kvs, e, k, nf.1, nf.2, RDs.deep r0 ds _ q⟩
  | .opq _, _, r => by
    unfold RD at r ⊢
    obtain ⟨a, e, n, nf, k⟩ := r
    rw [List.mem_append, not_or] at nf
    exact ⟨a, e, nf.1, nf.2, k⟩
  | .exn c ds, _, r => by
    unfold RD at r ⊢
    obtain ⟨vs, k, q⟩ := r
    refine ⟨vs, k.go fun b o n nf e t => ?_, RDs.deep r0 ds vs q⟩
    rw [List.mem_append, not_or] at nf
    exact ⟨e, nf.1, nf.2⟩
theorem RDs.deep (r0 : HR K Fr ρ h H) : ∀ (ds : List D) (vs : List V), RDs K (ρ ++ Fr) [] H ds vs → RDs K Fr ρ H ds vs
  | [], _, r => r
  | d :: ds, _, r => by
    unfold RDs at r ⊢
    obtain ⟨v, t, e, k, q⟩ := r
    exact ⟨v, t, e, RD.deep r0 d v k, RDs.deep r0 ds t q⟩
end
mutual
theorem RD.aloof : ∀ (d : D) (v : V), D.pure d = true → RD K Fr ρ H d v → RD K (ρ ++ Fr) [] H d v
  | .non, _, _, r => r
  | .bl _, _, _, r => r
  | .int _, _, _, r => r
  | .str _, _, _, r => r
  | .tup ds, _, u, r => by
    unfold RD at r ⊢
    unfold D.pure at u
    obtain ⟨a, vs, e, k, n, q⟩ := r
    exact ⟨a, vs, e, k, List.not_mem_nil, RDs.aloof ds vs u q⟩
  | .lst ds, _, u, r => by
    unfold RD at r ⊢
    unfold D.pure at u
    obtain ⟨a, vs, e, k, n, nf, q⟩ := r
    exact ⟨a, vs, e, k, List.not_mem_nil, by rw [List.mem_append, not_or]; exact ⟨n, nf⟩, RDs.aloof ds vs u q⟩
  | .scr ns, _, _, r => by
    unfold RD at r ⊢
    obtain ⟨a, e, k⟩ := r
    exact ⟨a, e, k.imp (fun k => ⟨⟨k.1.1, List.not_mem_nil⟩, by rw [List.mem_append, not_or]; exact ⟨k.1.2, k.2⟩⟩) id⟩
  | .ktp ns, _, _, r => by
    unfold RD at r ⊢
    obtain ⟨a, e, k⟩ := r
    exact ⟨a, e, k.imp (fun k => ⟨k.1, List.not_mem_nil⟩) id⟩
  | .kpp ns, _, _, r => by
    unfold RD at r ⊢
    obtain ⟨a, e, o, qs, k, d, n, q⟩ := r
    exact ⟨a, e, o, qs, k, d, List.not_mem_nil, paired_imp q fun _ _ y => ⟨y.1, List.not_mem_nil⟩⟩
  | .ref n, _, u, r => by unfold D.pure at u; cases u
  | .dct ds, _, u, r => by
    unfold RD at r ⊢
    unfold D.pure at u
    obtain ⟨a, kvs, e, k, n, nf, q⟩ := r
    exact ⟨a, kvs, e, k, List.not_mem_nil, by rw [List.mem_append, not_or]; exact ⟨n, nf⟩, RDs.aloof ds _ u q⟩
  | .opq _, _, _, r => by
    unfold RD at r ⊢
    obtain ⟨a, e, n, nf, k⟩ := r
    exact ⟨a, e, List.not_mem_nil, by rw [List.mem_append, not_or]; exact ⟨n, nf⟩, k⟩
  | .exn c ds, _, u, r => by
    unfold RD at r ⊢
    unfold D.pure at u
    obtain ⟨vs, k, q⟩ := r
    exact ⟨vs, k.go fun b o n nf e t => ⟨e, List.not_mem_nil, by rw [List.mem_append, not_or]; exact ⟨n, nf⟩⟩, RDs.aloof ds vs u q⟩
theorem RDs.aloof : ∀ (ds : List D) (vs : List V), D.pures ds = true → RDs K Fr ρ H ds vs → RDs K (ρ ++ Fr) [] H ds vs
  | [], _, _, r => r
  | d :: ds, _, u, r => by
    unfold RDs at r ⊢
    unfold D.pures at u
    rw [Bool.and_eq_true] at u
    obtain ⟨v, t, e, k, q⟩ := r
    exact ⟨v, t, e, RD.aloof d v u.1 k, RDs.aloof ds t u.2 q⟩
end
theorem HR.alone (r : HR K Fr ρ h H) : HR K (ρ ++ Fr) [] [] H :=
  ⟨rfl, .nil, fun a ha => (List.mem_append.mp ha).elim (fun z => let ⟨u, e, c⟩ := r.cl z; ⟨u, e, isCl_tb c⟩) (r.fr' a), r.tb, fun a ha => absurd ha List.not_mem_nil, fun n o e => by simp at e⟩
theorem Ext.alone (ρ : List Addr) (x : Ext [] H ρ' H') : Ext ρ H ρ H' := ⟨⟨[], by simp, by simp⟩, fun a o _ e t => x.keep a o List.not_mem_nil e t⟩
theorem HR.later (r : HR K Fr ρ h H) (x : Ext [] H ρ' H') (htb : ∀ P q, LamTab K P q → LamX.TabS H' P q) : HR K Fr ρ h H' := by
  refine ⟨r.len, r.nd, fun a ha => ?_, htb, r.dj, fun n o e => ?_⟩
  · obtain ⟨u, e, t⟩ := r.fr' a ha; exact ⟨u, x.keep a u List.not_mem_nil e t, t⟩
  · obtain ⟨a, e1, q⟩ := r.at' n o e
    refine ⟨a, e1, OR.mono (x.alone ρ) ?_ q⟩
    obtain ⟨u, e2, c⟩ := q.cl
    rw [e2]
    exact x.keep a u List.not_mem_nil e2 (isCl_tb c)
/-! ### what a def promises -/
def spF (K : PySem.W.Frag) (f : List D → Hq → R (D × Hq)) : List V → Hp → VK → Prop := fun vs H Q => ∃ Fr ρ h ds, HR K Fr ρ h H ∧ RDs K Fr ρ H ds vs ∧ okR (Kont K Fr ρ H Q) (fun _ _ => False) (f ds h)
theorem RDs.start {N : List Str} {np : Nat} {ds : List D} {vs : List V} (hn : ds.length = np) (r : RDs K Fr ρ H ds vs) : SR K Fr ρ H (ds.map some ++ List.replicate (N.length - np) none) (L2.start N vs) := by
  unfold L2.start
  have hl := r.length
  refine ⟨by simp [hl, ← hn], fun i d e => ?_⟩
  have hi : i < ds.length := by
    by_cases hi : i < ds.length
    · exact hi
    · rw [List.getElem?_append_right (by simpa using hi), List.getElem?_replicate] at e
      split at e <;> cases e
  rw [List.getElem?_append_left (by simpa using hi), List.getElem?_map] at e
  cases e1 : ds[i]? with
  | none => rw [e1] at e; cases e
  | some d' =>
    rw [e1] at e; cases e
    obtain ⟨v, e2, k⟩ := r.get e1
    exact ⟨v, by rw [List.getElem?_append_left (by rw [List.length_map, ← hl]; exact hi), List.getElem?_map, e2]; rfl, k⟩
/-- how a body's end is taken -/
theorem ends_ok {Q : VK} {E : D → Hq → Prop} {r : R Fl} (h : okR (Kont K Fr ρ H Q) E (r.bind endOf)) : okR (KontS K Fr ρ H { nx := fun _ H' => Q .non H', rt := Q }) E r := by
  refine (okR_bind.mp h).mono (fun f k => ?_) fun _ _ z => z
  cases f with
  | nx s h => exact fun σ' ρ' H' x r sr => (show Kont K Fr ρ H Q (.non, h) from k) .non ρ' H' x r (by unfold RD; rfl)
  | rt d h => exact k
  | bk _ _ => exact (show False from k).elim
  | ct _ _ => exact (show False from k).elim
theorem okR_onExc {P : D × Hq → Prop} {E : D → Hq → Prop} {h0 : Hq} {r : R (D × Hq)} (h : okR P E (onExc h0 r)) : okR P (fun e _ => e.pure = true ∧ E e h0) r := by
  cases r with
  | ok a => exact h
  | exc e q =>
    unfold onExc at h
    dsimp only at h
    split at h
    · rename_i c; exact ⟨c, h⟩
    · exact h.elim
  | stuck => exact h
/-- from a def's promise to what its body must do -/
theorem body_ok {φ : Fn} {d : Def} {vs : List V} {Q : VK} (sp : spF K (runDef φ d) vs H Q) {N : List Str} (hN : d.names.length = N.length) (hp : d.nps ≤ N.length) :
    vs.length = d.nps ∧ TSk K (EK.none K) (exB φ d.body) { nx := fun _ H' => Q .non H', rt := Q } (L2.start N vs) H := by
  obtain ⟨Fr, ρ, h, ds, r, ra, ok⟩ := sp
  unfold runDef at ok
  split at ok
  · exact ok.elim
  · rename_i hl
    have hl : ds.length = d.nps := Decidable.not_not.mp hl
    refine ⟨by rw [← ra.length]; exact hl, ?_⟩
    have st : ∀ {Fr ρ}, RDs K Fr ρ H ds vs → SR K Fr ρ H (ds.map some ++ List.replicate (d.names.length - d.nps) none) (L2.start N vs) := fun ra => by rw [hN]; exact RDs.start hl ra
    dsimp only at ok
    split at ok
    · exact ⟨Fr, ρ, _, h, r, st ra, ends_ok ok⟩
    · refine ⟨Fr, ρ, _, h, r, st ra, ends_ok ((okR_bind.mp ok).mono (fun p q v ρ' H' x r' d' => ?_) fun _ _ z => z)⟩
      obtain ⟨y, h'⟩ := p
      dsimp only at q r' d'
      cases e : thaw1 h.length h' y with
      | none => rw [e] at q; exact q.elim
      | some z =>
        rw [e] at q
        dsimp only at q
        split at q
        · rename_i u
          exact (show Kont K Fr ρ H Q (z, h'.take h.length) from q) v ρ H' x.flat (r.cut x r' u) (RD.thaw1 (pre_of r x r') r' e d')
        · exact q.elim
    · split at ok
      · rename_i hpu
        have ok := okR_onExc ok
        refine ⟨ρ ++ Fr, [], _, [], r.alone, st (RDs.aloof ds vs hpu ra), ends_ok ((okR_bind.mp ok).mono (fun p q v ρ' H' x r' d' => ?_) fun _ _ z => z.2)⟩
        obtain ⟨y, h'⟩ := p
        dsimp only at q r' d'
        cases e : thaw1 0 h' y with
        | none => rw [e] at q; exact q.elim
        | some z =>
          rw [e] at q
          have rl := r.later x r'.tb
          exact (show Kont K Fr ρ H Q (z, h) from q) v ρ H' (x.alone ρ) rl (RD.deep rl z v (RD.thaw1 (pre_of r.alone x r') r' e d'))
      · exact ok.elim
end
end FF

/-! FFFn2: defs and calls; the law's call. -/
namespace FF
open PySem PySem.Spec PyProof.Rows L2
/-- no exception is looked for -/
abbrev CXn : CXT := fun _ _ _ _ _ _ => False
abbrev SpV := List V → Hp → VK → Prop
/-- the promise of a def where nothing is being shown -/
structure Fg (P : Program) (w : World) (K : PySem.W.Frag) (mg : Str → Option Value) (base : Heap) (k : Nat) (f : Addr) (fd : FuncData) (ps : List Str) (sp : SpV) : Prop where
  many : ∀ vs H Q, sp vs H Q → vs.length = ps.length
  goes : ∀ (A : Around) (outer : List Env) (s : Shared) (H : Hp) (args : Args) (us : List Value) (vs : List V) (Q : VK),
    A.guards = some [] → Room k A → Env0 P w K mg base A outer s H → BindsTo s fd args (ps.zip us) → Vals vs us → sp vs H Q →
    codeAny (model P w) A (.call (.ref f) args) (fun r t => ∃ u, r = .ok (.ret u) ∧ CE outer P w H s Q u t) s
/-- the context of a body -/
abbrev Xb (P : Program) (w : World) (K : PySem.W.Frag) (mg : Str → Option Value) (base : Heap) (N : List Str) (qual : Str) (sc : Scope) (f : Addr) (cd : Value) (A : Around) (outer : List Env) (s : Shared) (H : Hp) : Cx :=
  (cxOf CXn P w K mg base N qual sc f cd A outer s H fun _ _ _ => False).nox
section
variable {P : Program} {w : World} {K : PySem.W.Frag} {mg : Str → Option Value} {base : Heap}
theorem fg_of {k : Nat} {f : Addr} {x q : Str} {pr : Arguments} {body : List Stmt} {sc : Scope} {dV kV doc pm cdv ct oc : Value} {an od : Option Addr} {osl : Array (Option Value)} {N ps : List Str} {sp : SpV}
    (lk : K.lookup f = some ⟨oc, od, .func (PySem.W.fnOf x q pr body sc dV kV doc pm an cdv ct), osl⟩) (ci : PySem.W.codeIn K cdv q = true) (S : FnScope N ps sc)
    (hl : ∀ vs H Q, sp vs H Q → vs.length = ps.length)
    (run : ∀ (A : Around) (outer : List Env) (s : Shared) (H : Hp) (vs : List V) (Q : VK), A.guards = some [] → Room k (A.deeper (envOfC q sc s.heap.objs.size f cdv)) → sp vs H Q →
      ∃ t, PSs (Xb P w K mg base N q sc f cdv A outer s H) body t ∧ t { nx := fun _ G => Q .non G, rt := Q } (L2.start N vs) H) :
    Fg P w K mg base (k + 1) f (PySem.W.fnOf x q pr body sc dV kV doc pm an cdv ct) ps sp := by
  refine ⟨hl, fun A outer s H args us vs Q hgd room en bind rel hsp => ?_⟩
  have kin : K.In s.heap := en.mod.kin.keeps fun b o e => (en.bs b o e).1
  have kinds : ∀ y ∈ ps.zip us, sc.names.lookup y.1 = some .local ∨ (sc.names.lookup y.1 = some .cell ∧ ((cellsFrom (s.heap.objs.size + 1) sc.names []).lookup y.1).isSome = true) := by
    intro ⟨n, v⟩ hy
    exact (S.par n (List.of_mem_zip hy).1).imp id fun c => ⟨c, PySem.W.cellsFrom_some _ _ _ (.inl c)⟩
  refine codeAny_call_function room.depth (kin _ _ lk) rfl S.co S.gen rfl (PySem.W.codeRec_of kin ci) (bind _ _ _ _ (wpAny_newFunctionEnv_cells S.kind kinds fun env ee s1 x => ?_))
  subst ee
  have nl : s.heap.NoLimit := en.mod.nolimit.keeps fun b o e => (en.bs b o e).1
  refine ⟨nl.keeps x.toInCall.keep, codeAny_func ?_⟩
  obtain ⟨t, ht, hq⟩ := run A outer s H vs Q hgd (room.deeper _) hsp
  have I : L2.Inv (cxOf CXn P w K mg base N q sc f cdv A outer s H fun _ _ _ => False) [] (L2.start N vs) H s1 := inv_start S room.hd en (hl _ _ _ hsp) rel x
  refine wpAny_mono (ht.run [] s1 (L2.start N vs) H _ (I.wish _) hq) ?_ ?_
  · rintro (_ | u | _ | _) s' hs <;> replace hs := SP.unwish hs
    · obtain ⟨σ', H', J, q⟩ := hs
      exact ⟨_, rfl, .non, H', J.os, J.bare, J.base, J.hok, rfl, q⟩
    · first
        | (obtain ⟨v, σ', H', J, rv, q⟩ := hs; exact ⟨_, rfl, v, H', J.os, J.bare, J.base, J.hok, rv, q⟩)
        | (obtain ⟨_, _, _, q⟩ := hs; exact q.elim)
    · first
        | (obtain ⟨v, σ', H', J, rv, q⟩ := hs; exact ⟨_, rfl, v, H', J.os, J.bare, J.base, J.hok, rv, q⟩)
        | (obtain ⟨_, _, _, q⟩ := hs; exact q.elim)
    · first
        | (obtain ⟨v, σ', H', J, rv, q⟩ := hs; exact ⟨_, rfl, v, H', J.os, J.bare, J.base, J.hok, rv, q⟩)
        | (obtain ⟨_, _, _, q⟩ := hs; exact q.elim)
  · exact fun e s' hs => False.elim hs
end

/-! ### calls -/
section
variable {X : Cx} {k : Nat} {f : Addr} {fd : FuncData} {ps : List Str} {sp : SpV} {x : Str} {p pos : Pos} {e : Expr} {es : List Expr} {t : TA}
theorem fg_run {pins : List (Addr × Obj)} {σ : L2.St} {H : Hp} {s : Shared} {Q : VK} {args : Args} {us : List Value} {vs : List V} (F : Fg X.prog X.w X.K X.mg X.base k f fd ps sp) (hgd : X.A.guards = some []) (hr : Room k X.A)
    (I : L2.Inv X pins σ H s) (r : Vals vs us) (hb : BindsTo s fd args (ps.zip us)) (h : sp vs H Q) : wpAny (model X.prog X.w) X.A (PySem.call (.ref f) args.pos args.kw) (EP X pins σ Q) X.xe s := by
  refine wpAny_call (codeAny_mono (F.goes X.A X.stack s H args us vs Q hgd hr I.env0 hb r h) ?_)
  rintro _ s' ⟨u, rfl, c⟩
  exact I.after c
theorem pe_fg (F : Fg X.prog X.w X.K X.mg X.base k f fd ps sp) (hgd : X.A.guards = some []) (hr : Room k X.A) (hg : Gl X x) (hm : X.mg x = some (.ref f)) (hk : PySem.W.keepIn X.K (.ref f) = true)
    (hb : ∀ us : List Value, us.length = ps.length → bindArgs fd ⟨us, []⟩ = pure (ps.zip us)) (ha : PA X (e :: es) t) (hdb : (x == ("__debug__" : Str)) = false)
    (he : starEach (e :: es) X.env = (false, eval e X.env) :: starEach es X.env) (hpl : (backTo pos (starEach es X.env)).any (·.1) = false) : PE X (.Call (.Name x p) (e :: es) [] pos) (fun σ H Q => t σ H fun vs G => sp vs G Q) := by
  refine ⟨fun pins s σ H Q I h => wpAny_Call_Name_kw (ld_glob I hg hm ?_ hdb)⟩
  refine PySem.W.callWith_K (h₀ := X.base) I.ok.mod.kin hk (thn (ha.run pos pins s σ H _ I h) ?_) he hpl
  rintro us t1 ⟨vs, G, J, r, q⟩
  exact ⟨J.kIn, fg_run (args := ⟨us, []⟩) F hgd hr J r (.of_eq (hb us (by rw [← r.length]; exact F.many _ _ _ q))) q⟩
/-- which of the written values goes where -/
def perm {α : Type} (l : List Nat) (xs : List α) : List α := l.filterMap fun i => xs[i]?
/-- the keywords' values -/
def SK (X : Cx) (W : EK X.K) (kws : List Keyword) (fs : Env' → Hq → R (List D × Hq)) : Prop := PK X kws (TAk X.K W fs)
theorem PK.imp {e : List Keyword} {t t' : TA} (h : PK X e t) (i : ∀ σ H Q, t' σ H Q → t σ H Q) : PK X e t' := ⟨fun pos pins s σ H Q I q => h.run pos pins s σ H Q I (i _ _ _ q)⟩
theorem sk_nil {W : EK X.K} : SK X W [] (fun _ h => .ok ([], h)) := PK.imp pk_nil fun σ H Q ⟨Fr, ρ, s, h, r, sr, ok⟩ => ok [] ρ H .refl r RDs.nil
theorem sk_cons {W : EK X.K} {nm : Option Str} {kpos : Pos} {kws : List Keyword} {fe : Env' → Hq → R (D × Hq)} {fs : Env' → Hq → R (List D × Hq)} (he : SE X W e fe) (hs : SK X W kws fs) :
    SK X W (⟨nm, e, kpos⟩ :: kws) (fun s h => (fe s h).bind fun p => (fs s p.2).bind fun q => .ok (p.1 :: q.1, q.2)) := by
  refine PK.imp (pk_cons he hs) fun σ H Q ⟨Fr, ρ, s, h, r, sr, ok⟩ => ⟨Fr, ρ, s, h, r, sr, (okR_bind.mp ok).mono (fun p q v ρ1 H1 x1 r1 d1 => ?_) fun _ _ z => z⟩
  refine ⟨Fr, ρ1, s, p.2, r1, sr.mono x1, (okR_bind.mp q).mono (fun p2 q2 w ρ2 H2 x2 r2 d2 => ?_) fun _ _ z => W.mono x1 r1 z⟩
  exact q2 _ ρ2 H2 (x1.step r1 x2) r2 (.cons (RD.mono x2 _ _ d1) d2)
end
/-- a def of the text that may be called -/
structure Cal (P : Program) (w : World) (K : PySem.W.Frag) (mg : Str → Option Value) (base : Heap) (k : Nat) (fx : List D → Hq → R (D × Hq)) (st : Stmt) (x : Str) (ps : List Str) : Prop where
  ex : ∃ (f : Addr) (kV doc pm : Value) (an : Option Addr) (cdv ct : Value), Fg P w K mg base k f (PySem.W.fnOf x x (defArgs st) (defBody st) (defScope st) .none kV doc pm an cdv ct) ps (spF K fx) ∧ mg x = some (.ref f) ∧ PySem.W.keepIn K (.ref f) = true
section
variable {X : Cx} {k : Nat} {fx : List D → Hq → R (D × Hq)} {st : Stmt} {ps : List Str} {x : Str} {p pos : Pos} {e : Expr} {es : List Expr}
theorem se_call {fs : Env' → Hq → R (List D × Hq)} (C : Cal X.prog X.w X.K X.mg X.base k fx st x ps) (hgd : X.A.guards = some []) (hr : Room k X.A) (hg : Gl X x)
    (hb : ∀ (kV doc pm : Value) (an : Option Addr) (cdv ct : Value) (us : List Value), us.length = ps.length → bindArgs (PySem.W.fnOf x x (defArgs st) (defBody st) (defScope st) .none kV doc pm an cdv ct) ⟨us, []⟩ = pure (ps.zip us))
    (ha : SA X (EK.none X.K) (e :: es) fs) (hdb : (x == ("__debug__" : Str)) = false) (he : starEach (e :: es) X.env = (false, eval e X.env) :: starEach es X.env) (hpl : (backTo pos (starEach es X.env)).any (·.1) = false) :
    SE X (EK.none X.K) (.Call (.Name x p) (e :: es) [] pos) (fun s h => (fs s h).bind fun q => fx q.1 q.2) := by
  obtain ⟨f, kV, doc, pm, an, cdv, ct, F, hm, hk⟩ := C.ex
  exact PE.imp (pe_fg F hgd hr hg hm hk (hb _ _ _ _ _ _) ha hdb he hpl) fun σ H Q t => (tA (g := fx) t).mono fun xs G ⟨Fr, ρ, h, ds, r, d, ok⟩ => ⟨Fr, ρ, h, ds, r, d, ok⟩
/-- a def keeps its promise -/
theorem cal_of {P : Program} {w : World} {K : PySem.W.Frag} {mg : Str → Option Value} {base : Heap} {f : Addr} {φ : Fn} {d : Def} {N : List Str} {kV doc pm cdv ct oc : Value} {an od : Option Addr} {osl : Array (Option Value)}
    (lk : K.lookup f = some ⟨oc, od, .func (PySem.W.fnOf x x (defArgs st) (defBody st) (defScope st) .none kV doc pm an cdv ct), osl⟩) (ci : PySem.W.codeIn K cdv x = true) (hm : mg x = some (.ref f)) (hk : PySem.W.keepIn K (.ref f) = true)
    (S : FnScope N ps (defScope st)) (hn : d.names.length = N.length) (hp : d.nps = ps.length)
    (body : ∀ (A : Around) (outer : List Env) (s : Shared) (H : Hp), A.guards = some [] → Room k (A.deeper (envOfC x (defScope st) s.heap.objs.size f cdv)) →
      SB (Xb P w K mg base N x (defScope st) f cdv A outer s H) (EK.none K) (defBody st) (exB φ d.body)) : Cal P w K mg base (k + 1) (runDef φ d) st x ps := by
  have hpl : ps.length ≤ N.length := by have := congrArg List.length S.pre; rw [List.length_take] at this; omega
  refine ⟨f, kV, doc, pm, an, cdv, ct, fg_of lk ci S (fun vs H Q h => ?_) (fun A outer s H vs Q hgd hr h => ?_), hm, hk⟩
  · rw [← hp]; exact (body_ok h hn (by rw [hp]; exact hpl)).1
  · exact ⟨_, body A outer s H hgd hr, (body_ok h hn (by rw [hp]; exact hpl)).2⟩
end
end FF

/-! FFHead: the law's own call. -/
namespace FF
open PySem PySem.Spec PyProof.Rows L2
section
/-- the heap in which the script alone is known -/
def scrH (K : PySem.W.Frag) (a : Addr) (o : Obj) (ns : List Int) : Hp := fun b => if b = a ∧ K.lookup a = none then some (.frz o (.lst (ns.map V.int))) else none
theorem scrH_some {K : PySem.W.Frag} {a b : Addr} {o : Obj} {ns : List Int} {u : HO} (h : scrH K a o ns b = some u) : b = a ∧ K.lookup a = none ∧ u = .frz o (.lst (ns.map V.int)) := by
  unfold scrH at h
  split at h
  · rename_i c; cases h; exact ⟨c.1, c.2, rfl⟩
  · cases h
theorem scrH_at {K : PySem.W.Frag} {a : Addr} {o : Obj} {ns : List Int} (h : K.lookup a = none) : scrH K a o ns a = some (.frz o (.lst (ns.map V.int))) := if_pos ⟨rfl, h⟩
theorem law_goes {P : Program} {w : World} {K : PySem.W.Frag} {mg mb : Str → Option Value} {k : Nat} {fa a : Addr} {fd : FuncData} {x : Str} {fx : List D → Hq → R (D × Hq)} {s : Shared} {vs : List Value} {ns : List Int}
    (kin : K.In s.heap) (nsM : s.heap.Ns mainGlobals mg) (nsB : s.heap.Ns builtinsNs mb) (boot : ∀ y : Str, y ≠ "__name__" → mb y = bootBuiltins y) (nol : s.heap.NoLimit) (gens : s.gens = #[])
    (obj : s.heap.get? a = some { cls := .type "list", data := .seq vs.toArray }) (inz : IntsAre vs ns) (few : ns.length ≤ sizeLine) (room : Room k callerA) (nolam : lamTabs K = [])
    (F : ∀ base : Heap, K.In base → base.Ns mainGlobals mg → Fg P w K mg base k fa fd [x] (spF K fx)) (bind : ∀ (t : Shared) (u : Value), BindsTo t fd ⟨[u], []⟩ [(x, u)])
    (told : ∃ h', fx [.scr ns] [] = .ok (.bl true, h')) :
    codeAny (model P w) callerA (.call (.ref fa) ⟨[.ref a], []⟩) (fun r t => r = .ok (.ret (.bool true)) ∧ OldK s.heap t.heap ∧ t.os = s.os ∧ AllBare t.gens) s := by
  have vals := vals_ints inz
  let ob : Obj := { cls := .type "list", data := .seq vs.toArray }
  let H : Hp := scrH K a ob ns
  have seen : ∀ {b : Addr} {o : Obj}, s.heap.get? b = some o → H b = none → (hidT s.heap H).get? b = some o := fun e z => hidT_get e z
  have free : ∀ {b : Addr} {o : Obj}, K.lookup b = some o → H b = none := by
    intro b o e
    cases q : H b with
    | none => rfl
    | some u =>
      obtain ⟨rfl, z, _⟩ := scrH_some q
      rw [e] at z; cases z
  have nsOf : ∀ {b : Addr} {m : Str → Option Value}, s.heap.Ns b m → (hidT s.heap H).Ns b m := by
    rintro b m ⟨o, es, ep, e, d, rest⟩
    refine ⟨o, es, ep, seen e ?_, d, rest⟩
    cases q : H b with
    | none => rfl
    | some u =>
      obtain ⟨rfl, _, _⟩ := scrH_some q
      rw [obj] at e; cases e
      have d : Data.seq vs.toArray _ = Data.dict es ep := d
      cases d
  have kb : K.In (hidT s.heap H) := fun b o e => seen (kin b o e) (free e)
  have mod : Mod K mg (hidT s.heap H) := by
    obtain ⟨mc, z1, z2⟩ := nol
    exact ⟨kb, nsOf nsM, ⟨mb, nsOf nsB, boot⟩, mc, nsOf z1, z2⟩
  have hok : HOk P w H s.heap := by
    intro b u q
    obtain ⟨rfl, _, rfl⟩ := scrH_some q
    exact ⟨obj, by rw [List.length_map]; exact few, vs, _, vals, obj⟩
  have en : Env0 P w K mg (hidT s.heap H) callerA [] s H :=
    ⟨rfl, mod, fun b o e => of_hidT e, Nat.le_of_eq (hidT_size _ _), trivial, fun b hb => absurd hb List.not_mem_nil, hok, .of_eq gens⟩
  have rd : RD K [] [] H (.scr ns) (.ref a) := by
    unfold RD
    refine ⟨a, rfl, ?_⟩
    cases e : K.lookup a with
    | none => exact .inl ⟨⟨.inr ⟨ob, scrH_at e⟩, List.not_mem_nil⟩, List.not_mem_nil⟩
    | some o =>
      have z := kin a o e
      rw [obj] at z; cases z
      exact .inr ⟨_, vs.toArray, _, e, rfl, rfl, rfl, by rw [List.size_toArray, inz.length]; exact few, by simpa using vals⟩
  have hr : HR K [] [] [] H := ⟨rfl, .nil, fun b hb => absurd hb List.not_mem_nil, fun P q l => (by obtain ⟨c, l⟩ := l; rw [nolam] at l; cases l), fun b hb => absurd hb List.not_mem_nil, fun n o e => by simp at e⟩
  obtain ⟨h', told⟩ := told
  have sp : spF K fx [.ref a] H (fun v _ => v = .bl true) := by
    refine ⟨[], [], [], [.scr ns], hr, .cons rd .nil, ?_⟩
    rw [told]
    intro v ρ' H' _ _ d
    unfold RD at d
    exact d
  refine codeAny_mono ((F _ kb (nsOf nsM)).goes callerA [] s H ⟨[.ref a], []⟩ [.ref a] [.ref a] _ rfl room en (bind s (.ref a)) (.cons rfl .nil) sp) ?_
  rintro _ t ⟨u, rfl, v, G, os, bare, un, okG, rv, q⟩
  have q : v = .bl true := q
  subst q
  obtain rfl : u = Value.bool true := rv
  refine ⟨rfl, OldK.of_keep fun b o e => ?_, os, bare⟩
  cases z : H b with
  | none => exact un.keep b o e z (fun y => absurd y List.not_mem_nil) (by simp)
  | some y =>
    obtain ⟨rfl, _, rfl⟩ := scrH_some z
    have z2 := un.frzs _ _ _ z
    have w1 := (hok _ _ z).1
    have w2 := (okG _ _ z2).1
    rw [e] at w1; cases w1
    exact w2
/-- the goal that the head of a row leaves -/
theorem law_walk {l : PySem.W.OpenLaw} {n k : Nat} {q : Program} {loose : List Str} {XP : (Str → Option Value) → Heap → Prop} {YP : World → Heap → Prop} {d : DefRec} {K : Params → PySem.W.Frag} {fx : List D → Hq → R (D × Hq)} {x : Str}
    (most : l.most = some n) (n2 : n ≤ sizeLine) (dfl : d.params.defaults = []) (room : Room k callerA)
    (told : ∀ ns : List Int, ns.length ≤ n → (∀ z ∈ ns, Builtin.Int.intBits z ≤ 1048576) → ∃ h', fx [.scr ns] [] = .ok (.bl true, h'))
    (yk : ∀ (w : World) (h : Heap), YP w h → (K w.params).In h) (nolam : ∀ p : Params, lamTabs (K p) = [])
    (F : ∀ (w : World) (mg : Str → Option Value) (fa : Addr) (h : Heap), (K w.params).In h → h.Ns mainGlobals mg → mg d.name = some (.ref fa) →
      ∃ fd : FuncData, (∀ (s : Shared) (u : Value), BindsTo s fd ⟨[u], []⟩ [(x, u)]) ∧
        ∀ base : Heap, (K w.params).In base → base.Ns mainGlobals mg → Fg l.prog w (K w.params) mg base k fa fd [x] (spF (K w.params) fx)) :
    PySem.W.WalkO q loose XP YP l.row.toRowW d [] (fun f vs => PySem.call f vs) := by
  refine Att.attach_callB most dfl fun w s0 s1 mg mb fa o pm cd doc a vs ns G Y _ _ _ hmg obj inz len bits gens => ?_
  obtain ⟨fd, hb, hF⟩ := F w mg fa _ (yk w _ Y) G.T.g hmg
  exact law_goes (yk w _ Y) G.T.g G.T.b G.T.builtins G.T.nolimit gens obj inz (Nat.le_trans len n2) room (nolam _) hF hb (told ns len bits)
end
end FF

/-! FFDict: displays of dicts. -/
namespace FF
open PySem PySem.Spec PyProof.Rows L2
abbrev FD := Env' → Hq → R (D × Hq)
/-- keys and values, one behind another -/
def seqD : List (FD × FD) → Env' → Hq → R (List D × Hq)
  | [], _, h => .ok ([], h)
  | (fk, fv) :: r, s, h => (fk s h).bind fun p => ((fv s p.2).bind fun q => (seqD r s q.2).bind fun t => .ok (q.1 :: t.1, t.2)).bind fun q => .ok (p.1 :: q.1, q.2)
def flat2 : List (V × V) → List V
  | [] => []
  | p :: r => p.1 :: p.2 :: flat2 r
def trsOf (K : PySem.W.Frag) (l : List (FD × FD)) : List (TE × TE) := l.map fun p => (TEk K (EK.none K) p.1, TEk K (EK.none K) p.2)
theorem pairs_t {K : PySem.W.Frag} : ∀ (l : List (FD × FD)) (σ : L2.St) (H : Hp) (Q : List (V × V) → Hp → Prop) (Fr ρ : List Addr) (s : Env') (h : Hq), HR K Fr ρ h H → SR K Fr ρ H s σ →
    okR (fun q => ∀ ps ρ' H', Ext ρ H ρ' H' → HR K Fr ρ' q.2 H' → RDs K Fr ρ' H' q.1 (flat2 ps) → Q ps H') (fun _ _ => False) (seqD l s h) → tPairs (trsOf K l) σ H Q
  | [], σ, H, Q, Fr, ρ, s, h, r, sr, ok => ok [] ρ H .refl r RDs.nil
  | (fk, fv) :: l, σ, H, Q, Fr, ρ, s, h, r, sr, ok => by
    refine ⟨Fr, ρ, s, h, r, sr, (okR_bind.mp ok).mono (fun p q v ρ1 H1 x1 r1 d1 => ?_) fun _ _ z => z⟩
    have q := okR_bind.mp (okR_bind.mp q)
    refine ⟨Fr, ρ1, s, p.2, r1, sr.mono x1, q.mono (fun p2 q2 w ρ2 H2 x2 r2 d2 => ?_) fun _ _ z => z⟩
    have x12 := x1.step r1 x2
    refine pairs_t l σ H2 _ Fr ρ2 s p2.2 r2 (sr.mono x12) ((okR_bind.mp q2).mono (fun p3 q3 ps ρ3 H3 x3 r3 d3 => ?_) fun _ _ z => z)
    refine q3 ((v, w) :: ps) ρ3 H3 (x12.step r2 x3) r3 ?_
    exact .cons (RD.mono (x2.step r2 x3) _ _ d1) (.cons (RD.mono x3 _ _ d2) d3)
theorem pairs_kr {K : PySem.W.Frag} {Fr ρ : List Addr} {H : Hp} : ∀ {ps : List (V × V)} {ds : List D} {kvs : List (Key × D)}, RDs K Fr ρ H ds (flat2 ps) → pairsOf ds = some kvs → ∃ vs : List (Key × V), ps = vs.map (fun kv => (kV kv.1, kv.2)) ∧ KR K Fr ρ H kvs vs
  | [], ds, kvs, r, e => by
    have hl := r.length
    cases ds with
    | nil => unfold pairsOf at e; cases e; exact ⟨[], rfl, KR.nil⟩
    | cons _ _ => cases hl
  | p :: ps, ds, kvs, r, e => by
    have hl := r.length
    match ds, e, hl, r with
    | [], _, hl, _ => cases hl
    | [_], _, hl, _ => cases hl
    | a :: b :: t, e, _, r =>
      unfold pairsOf at e
      split at e
      · rename_i k kvs' e1 e2
        cases e
        unfold flat2 RDs at r
        obtain ⟨v, t1, z, k1, r⟩ := r
        cases z
        unfold RDs at r
        obtain ⟨v, t1, z, k2, r⟩ := r
        cases z
        obtain ⟨vs, e3, q⟩ := pairs_kr r e2
        obtain ⟨pk, pv⟩ := p
        have := kv_of_key e1 k1
        dsimp only at this k2
        subst this
        exact ⟨(k, pv) :: vs, by rw [e3]; rfl, KR.cons k2 q⟩
      · cases e
theorem kr_fold {K : PySem.W.Frag} {Fr ρ : List Addr} {H : Hp} : ∀ {kvs : List (Key × D)} {vs : List (Key × V)} {a : List (Key × D)} {b : List (Key × V)}, KR K Fr ρ H kvs vs → KR K Fr ρ H a b →
    KR K Fr ρ H (kvs.foldl (fun acc kv => kput acc kv.1 kv.2) a) (mergeK b vs)
  | [], vs, a, b, r, q => by
    have := r.length
    cases vs with
    | nil => exact q
    | cons _ _ => cases this
  | p :: kvs, vs, a, b, r, q => by
    obtain ⟨v, t, rfl, k1, r⟩ := r.cases
    exact kr_fold (kvs := kvs) (vs := t) (a := kput a p.1 p.2) (b := putK b p.1 v) r (q.put k1)
section
variable {X : Cx} {pos : Pos}
theorem se_dct {l : List (FD × FD)} {keys : List (Option Expr)} {values : List Expr} (h : PPs X pos keys values (trsOf X.K l)) (hall : keys.all (·.isSome) = true) (hl : keys.length = values.length) (h0 : keys ≠ []) (h15 : keys.length ≤ 15) :
    SE X (EK.none X.K) (.Dict keys values pos) (fun s h => (seqD l s h).bind fun q => lift (mkD true q.1 q.2)) := by
  refine PE.imp (pe_disp h hall hl h0 h15) fun σ H Q ⟨Fr, ρ, s, h, r, sr, ok⟩ p hp => ?_
  have hf : ∀ a ∈ p :: Fr, a ∈ Fr ∨ H a = none := fun a ha => (List.mem_cons.mp ha).elim (fun e => .inr (e ▸ hp)) .inl
  have x0 : Ext ρ H ρ (upd H p (.dK [])) := ext_new hp
  have nf := r.fresh hp
  refine pairs_t l σ _ _ (p :: Fr) ρ s h (r.aside hp) ((sr.fr hf).mono x0) ((okR_bind.mp ok).mono (fun q ok ps ρ1 H1 x1 r1 d1 => ?_) fun _ _ z => z)
  obtain ⟨y, e, k⟩ := okR_lift ok
  have hp1 : H1 p = some (.dK []) := x1.keep p _ nf.1 upd_same
  refine ⟨hp1, ?_⟩
  unfold mkD at e
  split at e
  · rename_i kvs ek
    split at e
    · rename_i h15
      rw [if_pos rfl] at e
      cases e
      obtain ⟨vs, rfl, kr⟩ := pairs_kr d1 ek
      refine ⟨vs, rfl, by rw [← kr.length]; exact h15, ?_⟩
      have hpF : p ∈ p :: Fr := List.mem_cons_self
      have kr1 := (kr_fold kr KR.nil).alt (o := .dK (mergeK [] vs)) hpF rfl hp1
      have r2 := (r1.alt (o := .dK (mergeK [] vs)) hpF rfl hp1).ownO (b := .dct (kvs.foldl (fun acc kv => kput acc kv.1 kv.2) [])) nf.2 rfl upd_same ⟨_, upd_same, kr1⟩
      have nρ : p ∉ ρ1 := fun z => r1.dj p z hpF
      refine k _ (ρ1 ++ [p]) _ ⟨?_, fun a o n e ht => ?_⟩ r2 ?_
      · obtain ⟨m, em, hm⟩ := x1.more
        refine ⟨m ++ [p], by rw [em, List.append_assoc], fun a ha o ho => ?_⟩
        rcases List.mem_append.mp ha with z | z
        · have := hm a z o
          by_cases e : a = p
          · rw [e, hp] at ho; cases ho
          · rw [upd_ne e] at this; exact this ho
        · rw [List.mem_singleton] at z; rw [z, hp] at ho; cases ho
      · have hne : a ≠ p := ne_of_none e hp
        rw [upd_ne hne]
        exact x1.keep a o n (by rw [upd_ne hne]; exact e) ht
      · unfold RD
        exact ⟨p, rfl, by rw [List.getElem?_append_right (by rw [r1.len]; exact Nat.le_refl _), r1.len]; simp⟩
    · cases e
  · cases e
theorem flat2_kV : ∀ vs : List (Key × V), flat2 (vs.map fun kv => (kV kv.1, kv.2)) = flatK vs
  | [] => rfl
  | (k, v) :: r => by
    have := flat2_kV r
    show kV k :: v :: flat2 _ = kV k :: v :: flatK r
    rw [this]
theorem putK_new {a : List (Key × V)} {k : Key} {v : V} (h : ∀ p ∈ a, p.1 ≠ k) : putK a k v = a ++ [(k, v)] := by
  unfold putK
  rw [if_neg]
  intro z
  obtain ⟨p, hp, e⟩ := List.any_eq_true.mp z
  exact h p hp (of_decide_eq_true e)
theorem mergeK_new : ∀ (vs a : List (Key × V)), (vs.map (·.1)).Nodup → (∀ p ∈ a, ∀ q ∈ vs, p.1 ≠ q.1) → mergeK a vs = a ++ vs
  | [], a, _, _ => (List.append_nil a).symm
  | q :: vs, a, hn, hd => by
    rw [List.map_cons, List.nodup_cons] at hn
    show mergeK (putK a q.1 q.2) vs = _
    rw [putK_new fun p hp => hd p hp q List.mem_cons_self]
    rw [mergeK_new vs _ hn.2 fun p hp r hr => ?_, List.append_assoc]
    · rfl
    · rcases List.mem_append.mp hp with hp | hp
      · exact hd p hp r (List.mem_cons_of_mem _ hr)
      · rw [List.mem_singleton] at hp
        subst hp
        exact fun z => hn.1 (List.mem_map.mpr ⟨r, hr, z.symm⟩)
theorem kr_keys {K : PySem.W.Frag} {Fr ρ : List Addr} {H : Hp} : ∀ {kvs : List (Key × D)} {vs : List (Key × V)}, KR K Fr ρ H kvs vs → kvs.map (·.1) = vs.map (·.1)
  | [], vs, r => by
    have := r.length
    cases vs with
    | nil => rfl
    | cons _ _ => cases this
  | p :: kvs, vs, r => by
    obtain ⟨v, t, rfl, k1, r⟩ := r.cases
    rw [List.map_cons, List.map_cons, kr_keys r]
/-- a dict display that nobody changes -/
theorem se_dctF {l : List (FD × FD)} {keys : List (Option Expr)} {values : List Expr} (h : PPs X pos keys values (trsOf X.K l)) (hall : keys.all (·.isSome) = true) (hl : keys.length = values.length) (h0 : keys ≠ []) (h15 : keys.length ≤ 15) :
    SE X (EK.none X.K) (.Dict keys values pos) (fun s h => (seqD l s h).bind fun q => lift (mkD false q.1 q.2)) := by
  refine PE.imp (pe_disp h hall hl h0 h15) fun σ H Q ⟨Fr, ρ, s, h, r, sr, ok⟩ p hp => ?_
  have hf : ∀ a ∈ p :: Fr, a ∈ Fr ∨ H a = none := fun a ha => (List.mem_cons.mp ha).elim (fun e => .inr (e ▸ hp)) .inl
  have x0 : Ext ρ H ρ (upd H p (.dK [])) := ext_new hp
  have nf := r.fresh hp
  refine pairs_t l σ _ _ (p :: Fr) ρ s h (r.aside hp) ((sr.fr hf).mono x0) ((okR_bind.mp ok).mono (fun q ok ps ρ1 H1 x1 r1 d1 => ?_) fun _ _ z => z)
  obtain ⟨y, e, k⟩ := okR_lift ok
  have hp1 : H1 p = some (.dK []) := x1.keep p _ nf.1 upd_same
  refine ⟨hp1, ?_⟩
  unfold mkD at e
  split at e
  · rename_i kvs ek
    split at e
    · rename_i h15
      rw [if_neg (by simp)] at e
      split at e
      · rename_i hn
        cases e
        obtain ⟨vs, rfl, kr⟩ := pairs_kr d1 ek
        rw [flat2_kV] at d1
        refine ⟨vs, rfl, by rw [← kr.length]; exact h15, ?_⟩
        have em : mergeK [] vs = vs := by
          rw [mergeK_new vs [] (by rw [← kr_keys kr]; exact hn) (fun p hp => by cases hp), List.nil_append]
        rw [em]
        have hpF : p ∈ p :: Fr := List.mem_cons_self
        have nρ : p ∉ ρ1 := fun z => r1.dj p z hpF
        have r2 := (r1.alt (o := .dK vs) hpF rfl hp1).back (Fr' := Fr) fun a ha => List.mem_cons_of_mem _ ha
        have d2 := RDs.fr (Fr' := Fr) (fun a ha => .inl (List.mem_cons_of_mem _ ha)) _ _ (RDs.alt (o := .dK vs) hpF rfl hp1 _ _ d1)
        refine k _ ρ1 _ ⟨?_, fun a o n e ht => ?_⟩ r2 ?_
        · obtain ⟨m, em, hm⟩ := x1.more
          refine ⟨m, em, fun a ha o ho => ?_⟩
          have := hm a ha o
          by_cases e : a = p
          · rw [e, hp] at ho; cases ho
          · rw [upd_ne e] at this; exact this ho
        · have hne : a ≠ p := ne_of_none e hp
          rw [upd_ne hne]
          exact x1.keep a o n (by rw [upd_ne hne]; exact e) ht
        · unfold RD
          exact ⟨p, vs, rfl, upd_same, nρ, nf.2, d2⟩
      · cases e
    · cases e
  · cases e
end
end FF

/-! FFWalk: the rules by the core's forms. -/
namespace FF
open PySem PySem.Spec PyProof.Rows L2
section
variable {X : Cx} {W : EK X.K} {φ : Fn} {pos : Pos}
theorem w_var {x : Str} {i : Nat} (hN : X.N[i]? = some x) (hv : Vis X.env.scope x) (hd : (x == ("__debug__" : Str)) = false) (hcd : (x == ("__classdict__" : Str)) = false) : SE X W (.Name x pos) (ev φ (.var i)) := se_var hN hv hd hcd
theorem w_non {k : Nat} : SE X W (.Constant .none k pos) (ev φ (.const .non)) := se_const pe_non fun _ _ _ => by unfold RD; rfl
theorem w_bool {k : Nat} {b : Bool} : SE X W (.Constant (.bool b) k pos) (ev φ (.const (.bl b))) := se_const pe_bl fun _ _ _ => by unfold RD; rfl
theorem w_int {k : Nat} {i : Int} : SE X W (.Constant (.int i) k pos) (ev φ (.const (.int i))) := se_const pe_int fun _ _ _ => by unfold RD; rfl
theorem w_str {k : Nat} {i : Str} : SE X W (.Constant (.str i) k pos) (ev φ (.const (.str i))) := se_const pe_str fun _ _ _ => by unfold RD; rfl
theorem w_bin {op : Operator} {live : Bool} {a b : Expr} {ca cb : Ex} (ha : SE X W a (ev φ ca)) (hb : SE X W b (ev φ cb)) : SE X W (.BinOp a op b pos) (ev φ (.bin op live ca cb)) := se_bin ha hb
theorem w_neg {a : Expr} {ca : Ex} (ha : SE X W a (ev φ ca)) : SE X W (.UnaryOp .USub a pos) (ev φ (.neg ca)) := se_neg ha
theorem w_cmp {op : CmpOp} {a b : Expr} {ca cb : Ex} (hu : X.A.units + 65 < cLine) (ha : SE X W a (ev φ ca)) (hb : SE X W b (ev φ cb)) (hm : behindInMarks op b = false) : SE X W (.Compare a [op] [b] pos) (ev φ (.cmp op ca cb)) := se_cmp hu ha hb hm
theorem w_not {a : Expr} {ca : Ex} (ha : SE X W a (ev φ ca)) : SE X W (.UnaryOp .Not a pos) (ev φ (.notV ca)) := se_not ha
theorem w_and {a b : Expr} {r : List Expr} {ca cb : Ex} (ha : SE X W a (ev φ ca)) (hb : SE X W (.BoolOp .And (b :: r) pos) (ev φ cb)) : SE X W (.BoolOp .And (a :: b :: r) pos) (ev φ (.andV ca cb)) := se_and ha hb
theorem w_one {op : BoolOp} {a : Expr} {ca : Ex} (ha : SE X W a (ev φ ca)) : SE X W (.BoolOp op [a] pos) (ev φ ca) := se_one ha
theorem w_if {t a b : Expr} {ct ca cb : Ex} (ht : ST X W t (fun s h => testOf (ev φ ct s h))) (ha : SE X W a (ev φ ca)) (hb : SE X W b (ev φ cb)) : SE X W (.IfExp t a b pos) (ev φ (.ife ct ca cb)) := se_if ht ha hb
theorem w_ix {a b : Expr} {ca cb : Ex} (hu : X.A.units + 1 < cLine) (ha : SE X W a (ev φ ca)) (hb : SE X W b (ev φ cb)) (hs : PlainIx b) : SE X W (.Subscript a b pos) (ev φ (.ix ca cb)) := se_ix hu ha hb hs
theorem w_slice {e : Expr} {lo hi : Option Expr} {p2 : Pos} {ce : Ex} {cl ch : Exo} (he : SE X W e (ev φ ce)) (hl : SO X W lo (evO φ cl)) (hh : SO X W hi (evO φ ch)) : SE X W (.Subscript e (.Slice lo hi none p2) pos) (ev φ (.slice ce cl ch)) := se_slice he hl hh
theorem w_no : SO X W none (evO φ .no) := so_no
theorem w_yes {e : Expr} {ce : Ex} (he : SE X W e (ev φ ce)) : SO X W (some e) (evO φ (.yes ce)) := so_yes he
theorem w_anil : SA X W [] (evs φ .nil) := sa_nil
theorem w_acons {e : Expr} {es : List Expr} {ce : Ex} {cs : Exs} (he : SE X W e (ev φ ce)) (hs : SA X W es (evs φ cs)) (hst : starEach (e :: es) X.env = (false, eval e X.env) :: starEach es X.env) : SA X W (e :: es) (evs φ (.cons ce cs)) := sa_cons he hs hst
theorem w_knil : SK X W [] (evs φ .nil) := sk_nil
theorem w_kcons {nm : Option Str} {kpos : Pos} {e : Expr} {es : List Keyword} {ce : Ex} {cs : Exs} (he : SE X W e (ev φ ce)) (hs : SK X W es (evs φ cs)) : SK X W (⟨nm, e, kpos⟩ :: es) (evs φ (.cons ce cs)) := sk_cons he hs
theorem w_tup {es : List Expr} {x1 : Nat} {cs : Exs} (h : SA X W es (evs φ cs)) : SE X W (.Tuple es x1 pos) (ev φ (.tup cs)) := se_tup h
theorem w_lst {es : List Expr} {live : Bool} {cs : Exs} (h : SA X W es (evs φ cs)) : SE X W (.List es pos) (ev φ (.lst live cs)) := se_lst h
/-! built-ins -/
theorem w_cb {id : String} {x : Str} {e : Expr} {es : List Expr} {p : Pos} {f : Bi} {live : Bool} {cs : Exs} (hc : CallR X (.builtin id) (rDs X.K (biD f live))) (hg : Gl X x) (hm : X.mg x = none) (hv : bootBuiltins x = some (.builtin id))
    (ha : SA X W (e :: es) (evs φ cs)) (hn : x ≠ "__name__") (hdb : (x == ("__debug__" : Str)) = false) (he : starEach (e :: es) X.env = (false, eval e X.env) :: starEach es X.env) (hpl : (backTo pos (starEach es X.env)).any (·.1) = false) :
    SE X W (.Call (.Name x p) (e :: es) [] pos) (ev φ (.bi f live cs)) := se_cb hc hg hm hv ha hn hdb he hpl
theorem w_ct {id : String} {x : Str} {e : Expr} {es : List Expr} {p : Pos} {f : Bi} {live : Bool} {cs : Exs} (hc : CallR X (.type id) (rDs X.K (biD f live))) (hg : Gl X x) (hm : X.mg x = none) (hv : bootBuiltins x = some (.type id))
    (ha : SA X W (e :: es) (evs φ cs)) (hn : x ≠ "__name__") (hdb : (x == ("__debug__" : Str)) = false) (he : starEach (e :: es) X.env = (false, eval e X.env) :: starEach es X.env) (hpl : (backTo pos (starEach es X.env)).any (·.1) = false) :
    SE X W (.Call (.Name x p) (e :: es) [] pos) (ev φ (.bi f live cs)) := se_ct hc hg hm hv ha hn hdb he hpl
/-! methods of lists -/
theorem me_l {m : Me} {g : D → List D → Hq → Option (D × Hq)} {co : Ex} {cs : Exs} (hm : ∀ k, meFits m k = true → k = .lst) (hg : ∀ x ds h, meD .lst m x ds h = g x ds h) {σ : L2.St} {H : Hp} {Q : VK}
    (t : TEk X.K W (ev φ (.me m co cs)) σ H Q) : TEk X.K W (mthD m .lst g (ev φ co) (evs φ cs)) σ H Q := by
  obtain ⟨Fr, ρ, s, h, r, sr, ok⟩ := t
  refine ⟨Fr, ρ, s, h, r, sr, okR_bind.mpr ((okR_bind.mp (show okR _ _ ((ev φ co s h).bind _) from ok)).mono (fun p q => ?_) fun _ _ z => z)⟩
  have q : okR (Kont X.K Fr ρ H Q) (W.p Fr ρ H σ) (match meKind m p.1 p.2 with | some k => (evs φ cs s p.2).bind fun q => lift (meD k m p.1 q.1 q.2) | none => .stuck) := q
  cases e : meKind m p.1 p.2 with
  | none => rw [e] at q; exact q.elim
  | some k =>
    rw [e] at q
    have hk : k = .lst := hm k (by
      unfold meKind at e
      split at e
      · split at e
        · rename_i f; cases e; exact f
        · cases e
      · cases e)
    subst hk
    rw [if_pos rfl]
    refine okR_bind.mpr ((okR_bind.mp q).mono (fun p2 q2 => ?_) fun _ _ z => z)
    rw [hg] at q2
    exact q2
theorem w_bm {id : String} {o e : Expr} {es : List Expr} {name : Str} {apos : Pos} {m : Me} {g : D → List D → Hq → Option (D × Hq)} {co : Ex} {cs : Exs} (slot : Slot "list" name id) (hty : typeOf (.builtin id) = pure (.type "method_descriptor"))
    (hr : MtR X id (rM X.K g)) (hm : ∀ k, meFits m k = true → k = .lst) (hg : ∀ x ds h, meD .lst m x ds h = g x ds h) (ho : SE X W o (ev φ co)) (ha : SA X W (e :: es) (evs φ cs))
    (hbase : attributeBase o name X.env (eval o X.env) = eval o X.env)
    (hfew : ((backTo pos (starEach (e :: es) X.env)).all (fun x => !x.1) && (backToKw pos (keywordEach [] X.env)).all (fun x => x.1.isSome) && decide ((e :: es).length + ([] : List Keyword).length + (if ([] : List Keyword).isEmpty then 0 else 1) < 30)) = true)
    (hline : (apos.endLine == pos.line) = true) (hs : starEach (e :: es) X.env = (false, eval e X.env) :: starEach es X.env) (hplain : (backTo pos (starEach es X.env)).any (·.1) = false) :
    SE X W (.Call (.Attribute o name apos) (e :: es) [] pos) (ev φ (.me m co cs)) :=
  PE.imp (pe_bm PySem.F.plainAttrs_list slot hty hr ho ha hbase hfew hline hs hplain) fun σ H Q t => tM (fun _ _ _ _ _ _ r k e => ty_lst r k e) (me_l hm hg t)
theorem w_bm0 {id : String} {o : Expr} {name : Str} {apos : Pos} {m : Me} {g : D → List D → Hq → Option (D × Hq)} {co : Ex} (slot : Slot "list" name id) (hty : typeOf (.builtin id) = pure (.type "method_descriptor"))
    (hr : MtR X id (rM X.K g)) (hm : ∀ k, meFits m k = true → k = .lst) (hg : ∀ x ds h, meD .lst m x ds h = g x ds h) (ho : SE X W o (ev φ co))
    (hbase : attributeBase o name X.env (eval o X.env) = eval o X.env) (hline : (apos.endLine == pos.line) = true) :
    SE X W (.Call (.Attribute o name apos) [] [] pos) (ev φ (.me m co .nil)) := by
  refine PE.imp (pe_bm0 PySem.F.plainAttrs_list slot hty hr ho hbase hline) fun σ H Q t => ?_
  obtain ⟨Fr, ρ, s, h, r, sr, ok⟩ := tM (fun _ _ _ _ _ _ r k e => ty_lst r k e) (me_l hm hg t)
  refine ⟨Fr, ρ, s, h, r, sr, ok.mono (fun p q v ρ1 H1 x1 r1 d1 => ?_) fun _ _ z => z⟩
  obtain ⟨ty, Fr, ρ, s, h, r, sr, q⟩ := q v ρ1 H1 x1 r1 d1
  exact ⟨ty, q [] ρ H1 .refl r RDs.nil⟩
theorem fit_append : ∀ k, meFits .append k = true → k = .lst := by intro k; cases k <;> simp [meFits]
theorem fit_pop : ∀ k, meFits .pop k = true → k = .lst := by intro k; cases k <;> simp [meFits]
/-! dicts -/
/-- the keys and values of a display -/
def prs (φ : Fn) : Exs → List (FD × FD)
  | .cons a (.cons b r) => (ev φ a, ev φ b) :: prs φ r
  | _ => []
def Exs.even : Exs → Bool
  | .cons _ (.cons _ r) => r.even
  | .cons _ .nil => false
  | .nil => true
theorem prs_seq (φ : Fn) : ∀ (es : Exs), es.even = true → evs φ es = seqD (prs φ es)
  | .nil, _ => rfl
  | .cons _ .nil, h => by cases h
  | .cons a (.cons b r), h => by
    funext s h'
    have ih := prs_seq φ r h
    show (ev φ a s h').bind (fun x => ((ev φ b s x.2).bind fun y => (evs φ r s y.2).bind fun z => .ok (y.1 :: z.1, z.2)).bind fun z => .ok (x.1 :: z.1, z.2)) = _
    rw [ih]
    rfl
theorem w_dct {es : Exs} {keys : List (Option Expr)} {values : List Expr} (h : PPs X pos keys values (trsOf X.K (prs φ es))) (he : es.even = true) (hall : keys.all (·.isSome) = true) (hl : keys.length = values.length) (h0 : keys ≠ []) (h15 : keys.length ≤ 15) :
    SE X (EK.none X.K) (.Dict keys values pos) (ev φ (.dct true es)) := by
  have := se_dct h hall hl h0 h15
  rw [← prs_seq φ es he] at this
  exact this
theorem w_dctF {es : Exs} {keys : List (Option Expr)} {values : List Expr} (h : PPs X pos keys values (trsOf X.K (prs φ es))) (he : es.even = true) (hall : keys.all (·.isSome) = true) (hl : keys.length = values.length) (h0 : keys ≠ []) (h15 : keys.length ≤ 15) :
    SE X (EK.none X.K) (.Dict keys values pos) (ev φ (.dct false es)) := by
  have := se_dctF h hall hl h0 h15
  rw [← prs_seq φ es he] at this
  exact this
theorem w_pnil : PPs X pos [] [] (trsOf X.K (prs φ .nil)) := pps_nil
theorem w_pcons {k v : Expr} {ks : List (Option Expr)} {vs : List Expr} {ck cv : Ex} {r : Exs} (hk : SE X (EK.none X.K) k (ev φ ck)) (hv : SE X (EK.none X.K) v (ev φ cv)) (hr : PPs X pos ks vs (trsOf X.K (prs φ r))) :
    PPs X pos (some k :: ks) (v :: vs) (trsOf X.K (prs φ (.cons ck (.cons cv r)))) := pps_cons hk hv hr
/-! what is walked, comprehensions -/
theorem w_iex {tg e : Expr} {ce : Ex} (he : SE X W e (ev φ ce)) : SI X W tg e (evIt φ (.ex ce)) := si_ex he
theorem w_range1 {tg e : Expr} {p : Pos} {ce : Ex} (hg : Gl X "range") (hm : X.mg "range" = none) (he : SE X W e (ev φ ce)) (hs : starEach [e] X.env = [(false, eval e X.env)]) : SI X W tg (.Call (.Name "range" p) [e] [] pos) (evIt φ (.range1 ce)) := si_range1 hg hm he hs
theorem w_range2 {tg a b : Expr} {p : Pos} {ca cb : Ex} (hg : Gl X "range") (hm : X.mg "range" = none) (ha : SE X W a (ev φ ca)) (hb : SE X W b (ev φ cb)) (hs : starEach [a, b] X.env = [(false, eval a X.env), (false, eval b X.env)]) (hs2 : starEach [b] X.env = [(false, eval b X.env)]) :
    SI X W tg (.Call (.Name "range" p) [a, b] [] pos) (evIt φ (.range2 ca cb)) := si_range2 hg hm ha hb hs hs2
theorem w_ifs0 : STs X W [] (evIf φ .nil) := sts_nil
def ownOf (N : List Str) (os : List Nat) : List (Str × Nat) := os.map fun i => ((N[i]?).getD "", i)
theorem ownOf_snd (N : List Str) : ∀ os : List Nat, (ownOf N os).map (·.2) = os
  | [] => rfl
  | i :: os => by
    show i :: (ownOf N os).map (·.2) = i :: os
    rw [ownOf_snd N os]
theorem w_comp {elt tg iter : Expr} {ifs : List Expr} {scope : Scope} {os : List Nat} {live : Bool} {c : Tg} {ci : It} {cf : Exs} {ce : Ex}
    (hc : X.calm = true) (hN : X.N.Nodup) (hi : SI X W tg iter (evIt φ ci)) (ok : blkC X.N X.env.scope scope (ownOf X.N os) = true)
    (hg : ∀ (s : Shared) (H : Hp) (C : Addr) (cl : List (Str × Addr)) (fp : List Addr), SG (X.blk s H scope (compEnvC scope cl C X.env) fp) tg c)
    (ht : ∀ (s : Shared) (H : Hp) (C : Addr) (cl : List (Str × Addr)) (fp : List Addr), STs (X.blk s H scope (compEnvC scope cl C X.env) fp) (EK.none X.K) ifs (evIf φ cf))
    (he : ∀ (s : Shared) (H : Hp) (C : Addr) (cl : List (Str × Addr)) (fp : List Addr), SE (X.blk s H scope (compEnvC scope cl C X.env) fp) (EK.none X.K) elt (ev φ ce))
    (hs : ∀ x, foldedSetIterable iter X.env x = pure x) (hsl : ∀ i ∈ c.slots, i ∈ os) :
    SE X W (.ListComp elt [⟨tg, iter, ifs, 0⟩] scope pos) (ev φ (.comp live c ci cf ce os)) := by
  have := se_comp (pos := pos) (live := live) hc hN hi (blkOk_by ok) hg ht he hs (by rw [ownOf_snd]; exact hsl)
  rw [ownOf_snd] at this
  exact this
theorem w_setLc {i : Nat} {y : Str} {py : Pos} {elt tg iter : Expr} {ifs : List Expr} {scope : Scope} {os : List Nat} {spos : Pos} {live : Bool} {c : Tg} {ci : It} {cf : Exs} {ce : Ex}
    (hc : X.calm = true) (hN : X.N.Nodup) (hy : X.N[i]? = some y) (hyl : X.env.scope.names.lookup y = some .local)
    (hsw : swapsWith (.ListComp elt [⟨tg, iter, ifs, 0⟩] scope pos) (some (.Name y py)) spos.line X.env = pure true) (hi : SI X W tg iter (evIt φ ci)) (ok : blkC X.N X.env.scope scope (ownOf X.N os) = true)
    (hg : ∀ (s : Shared) (H : Hp) (C : Addr) (cl : List (Str × Addr)) (fp : List Addr), SG (X.blk s H scope (compEnvC scope cl C X.env) fp) tg c)
    (ht : ∀ (s : Shared) (H : Hp) (C : Addr) (cl : List (Str × Addr)) (fp : List Addr), STs (X.blk s H scope (compEnvC scope cl C X.env) fp) (EK.none X.K) ifs (evIf φ cf))
    (he : ∀ (s : Shared) (H : Hp) (C : Addr) (cl : List (Str × Addr)) (fp : List Addr), SE (X.blk s H scope (compEnvC scope cl C X.env) fp) (EK.none X.K) elt (ev φ ce))
    (hs : ∀ x, foldedSetIterable iter X.env x = pure x) (hsl : ∀ i ∈ c.slots, i ∈ os) :
    SS X W (.Assign [.Name y py] (.ListComp elt [⟨tg, iter, ifs, 0⟩] scope pos) spos) (exS φ (.set (.name i) (.comp live c ci cf ce os))) := by
  have := ss_setLc (W := W) (pos := pos) (live := live) hc hN hy hyl hsw hi (blkOk_by ok) hg ht he hs (by rw [ownOf_snd]; exact hsl)
  rw [ownOf_snd] at this
  exact this
/-! statements -/
theorem w_nil : SB X W [] (exB φ .nil) := sb_nil
theorem w_cons {a : Stmt} {r : List Stmt} {ca : Sm} {cr : Sms} (h1 : SS X (EK.none X.K) a (exS φ ca)) (h2 : SB X (EK.none X.K) r (exB φ cr)) : SB X (EK.none X.K) (a :: r) (exB φ (.cons ca cr)) := by
  refine PSs.imp (sb_cons EK.none_flat h1 h2) fun Z σ H ⟨Fr, ρ, s, h, r, sr, ok⟩ => ⟨Fr, ρ, s, h, r, sr, okR_bind.mpr ((okR_bind.mp (show okR _ _ ((exS φ ca s h).bind _) from ok)).mono (fun f q => ?_) fun _ _ z => z)⟩
  cases f <;> exact q
theorem w_expr {e : Expr} {ce : Ex} (he : SE X W e (ev φ ce)) (hs : swapsWith e none pos.line X.env = pure false) : SS X W (.Expr e pos) (exS φ (.expr ce)) := ss_expr he hs
theorem w_ret {e : Expr} {ce : Ex} (he : SE X W e (ev φ ce)) : SS X W (.Return (some e) pos) (exS φ (.ret ce)) := ss_ret he
theorem w_ite {c : Expr} {a b : List Stmt} {cc : Ex} {ca cb : Sms} (hc : ST X W c (fun s h => testOf (ev φ cc s h))) (ha : SB X W a (exB φ ca)) (hb : SB X W b (exB φ cb)) : SS X W (.If c a b pos) (exS φ (.ite cc ca cb)) := ss_if hc ha hb
theorem w_asg {tg e : Expr} {c : Tg} {ce : Ex} (he : SE X W e (ev φ ce)) (hg : SG X tg c) (hs : swapsWithSole [tg] e pos.line X.env = pure false) (hw : swappedStores [tg] e X.env = pure none)
    (h1 : (assignEach [tg] X.env).map (·.2) = [assign tg X.env]) : SS X W (.Assign [tg] e pos) (exS φ (.set c ce)) := ss_asg he hg hs hw h1
theorem w_par {i j : Nat} {x y : Str} {a b : Expr} {px py pt : Pos} {kt k2 pt2} {cs : Exs} (hc : X.calm = true) (hN : X.N.Nodup) (hi : X.N[i]? = some x) (hj : X.N[j]? = some y) (hij : i ≠ j)
    (hx : X.env.scope.names.lookup x = some .local) (hy : X.env.scope.names.lookup y = some .local) (ha : SA X W [a, b] (evs φ cs))
    (hw : swappedStores [.Tuple [.Name x px, .Name y py] kt pt] (.Tuple [a, b] k2 pt2) X.env = pure (some [x, y]))
    (hs : swapsWithSole [.Tuple [.Name x px, .Name y py] kt pt] (.Tuple [a, b] k2 pt2) pos.line X.env = pure false) :
    SS X W (.Assign [.Tuple [.Name x px, .Name y py] kt pt] (.Tuple [a, b] k2 pt2) pos) (exS φ (.set (.tup (.cons (.name i) (.cons (.name j) .nil))) (.tup cs))) := ss_par hc hN hi hj hij hx hy ha hw hs
theorem w_setIx {o i e : Expr} {tpos : Pos} {co ci ce : Ex} (hu : X.A.units + 1 < cLine) (he : SE X W e (ev φ ce)) (ho : SE X (EK.none X.K) o (ev φ co)) (hi : SE X (EK.none X.K) i (ev φ ci)) (hs : swapsWithSole [.Subscript o i tpos] e pos.line X.env = pure false) (hw : swappedStores [.Subscript o i tpos] e X.env = pure none)
    (h1 : (assignEach [.Subscript o i tpos] X.env).map (·.2) = [assign (.Subscript o i tpos) X.env])
    (ha : ∀ v, assign (.Subscript o i tpos) X.env v = (do
      let ov ← holding [v] (eval o X.env)
      let iv ← holding [v, ov] (eval i X.env)
      standAt tpos
      holding [v, ov, iv] (setItem ov iv v)
      release [v, ov, iv] [])) :
    SS X W (.Assign [.Subscript o i tpos] e pos) (exS φ (.setIx co ci ce)) := ss_setIx (set_D hu) he ho hi hs hw h1 ha
theorem w_for {tg iter : Expr} {body : List Stmt} {c : Tg} {ci : It} {cb : Sms} (hc : X.calm = true) (hp : PassesOwn (model X.prog X.w) X.A X.env X.xe) (hi : SI X (EK.none X.K) tg iter (evIt φ ci)) (hg : SG X tg c) (hb : SB X (EK.none X.K) body (exB φ cb))
    (hs : ∀ x, foldedSetIterable iter X.env x = pure x) : SS X (EK.none X.K) (.For tg iter body [] pos) (exS φ (.for c ci cb)) := ss_for EK.none_flat hp hc hi hg hb hs
/-! tests -/
theorem w_tcmp {op : CmpOp} {a b : Expr} {ca cb : Ex} (hu : X.A.units + 65 < cLine) (ha : SE X W a (ev φ ca)) (hb : SE X W b (ev φ cb)) (hm : behindInMarks op b = false) : ST X W (.Compare a [op] [b] pos) (fun s h => testOf (ev φ (.cmp op ca cb) s h)) := st_cmp hu ha hb hm
theorem w_tnot {a : Expr} {ca : Ex} (ha : ST X W a (fun s h => testOf (ev φ ca s h))) : ST X W (.UnaryOp .Not a pos) (fun s h => testOf (ev φ (.notV ca) s h)) := st_not ha
theorem w_twor {a b : Expr} {r : List Expr} {ca cb : Ex} (ha : ST X W a (fun s h => testOf (ev φ ca s h))) (hb : SW X W (.BoolOp .Or (b :: r) pos) (fun s h => testOf (ev φ cb s h))) : SW X W (.BoolOp .Or (a :: b :: r) pos) (fun s h => testOf (ev φ (.orV ca cb) s h)) := sw_or ha hb
theorem w_tone_or {a : Expr} {ca : Ex} (ha : ST X W a (fun s h => testOf (ev φ ca s h))) : SW X W (.BoolOp .Or [a] pos) (fun s h => testOf (ev φ ca s h)) := sw_one_or ha
theorem w_tbool {op : BoolOp} {es : List Expr} {ca : Ex} (h : SW X W (.BoolOp op es pos) (fun s h => testOf (ev φ ca s h))) : ST X W (.BoolOp op es pos) (fun s h => testOf (ev φ ca s h)) := PW.pt h
theorem w_tplain {a : Expr} {ca : Ex} (ha : SE X W a (ev φ ca)) (he : ∀ whole, isTrue a X.env whole = (do let v ← whole; standAt a.pos; holding [v] (truthy v))) : ST X W a (fun s h => testOf (ev φ ca s h)) := st_plain ha he
/-! calls -/
theorem w_call {k : Nat} {st : Stmt} {ps : List Str} {x : Str} {p : Pos} {e : Expr} {es : List Expr} {id : Nat} {cs : Exs} (C : Cal X.prog X.w X.K X.mg X.base k (φ id) st x ps) (hgd : X.A.guards = some []) (hr : Room k X.A) (hg : Gl X x)
    (hb : ∀ (kV doc pm : Value) (an : Option Addr) (cdv ct : Value) (us : List Value), us.length = ps.length → bindArgs (PySem.W.fnOf x x (defArgs st) (defBody st) (defScope st) .none kV doc pm an cdv ct) ⟨us, []⟩ = pure (ps.zip us))
    (ha : SA X (EK.none X.K) (e :: es) (evs φ cs)) (hdb : (x == ("__debug__" : Str)) = false) (he : starEach (e :: es) X.env = (false, eval e X.env) :: starEach es X.env) (hpl : (backTo pos (starEach es X.env)).any (·.1) = false) :
    SE X (EK.none X.K) (.Call (.Name x p) (e :: es) [] pos) (ev φ (.call id cs)) := se_call C hgd hr hg hb ha hdb he hpl
end
end FF

/-! FFZip: zip of two sequences, each a list or a tuple. -/
namespace FF
open PySem PySem.Spec PyProof.Rows L2
section
variable {X : Cx} {pins : List (Addr × Obj)} {σ : L2.St} {H : Hp} {s : Shared}
end
section
variable {X : Cx} {pos : Pos}
end
end FF

/-! FFEnum: enumerate over whatever begins as told. -/
namespace FF
open PySem PySem.Spec PyProof.Rows
end FF

/-! FFEnum2: enumerate, reckoned. -/
namespace FF
open PySem PySem.Spec PyProof.Rows L2
end FF

/-! FFEnum3: enumerate, the rule. -/
namespace FF
open PySem PySem.Spec PyProof.Rows L2
section
variable {X : Cx} {pos : Pos}
end
end FF

/-! FFMore: list(range(..)), tuple(range(..)), insert. -/
namespace FF
open PySem PySem.Spec PyProof.Rows L2
section
variable {X : Cx} {pos : Pos}
end
end FF

/-! FFNew: names of the module, isinstance, {}, sorted(set(..)). -/
namespace FF
open PySem PySem.Spec PyProof.Rows L2
section
variable {X : Cx} {W : EK X.K} {φ : Fn} {pos : Pos}
/-! sorted(set(t)) -/
end
end FF

/-! FFSort: sorted lists of tuples, the empty one among them. -/
namespace FF
open PySem PySem.Spec PyProof.Rows L2 PySem.W PySem.SeqAt
section
variable {prog : Program} {w : World} {A : Around} {E : Value → Shared → Prop} {s : Shared}
end
/-! ### by the layer -/
section
variable {X : Cx}
end
end FF

/-! FFLam: sorted(xs, key=lambda own: -book[own][1]). -/
namespace FF
open PySem PySem.Spec PyProof.Rows L2 PySem.W PySem.SeqAt
/-- the key's text -/
@[reducible] def keyBody (bk own : Str) (j : Nat) (p1 p2 p3 p4 p5 p6 : Pos) : Expr := .UnaryOp .USub (.Subscript (.Subscript (.Name bk p1) (.Name own p2) p3) (.Constant (.int 1) j p4) p5) p6
section
variable {prog : Program} {w : World} {A : Around} {E : Value → Shared → Prop} {s : Shared}
end
/-! ### by the core -/
/-- the lambda's names: its own one, the captured one -/
structure LamK (scope : Scope) (ow bk : Str) : Prop where
  kind : scope.kind = .function
  co : scope.isCoroutine = false
  gen : scope.isGenerator = false
  cell : ∀ y ∈ scope.names, y.2 ≠ .cell
  own' : scope.names.lookup ow = some .local
  bk' : scope.names.lookup bk = some .free
  free : ∀ y ∈ scope.names, y.2 = .free → y.1 = bk
section
variable {X : Cx} {W : EK X.K} {φ : Fn} {pos : Pos}
end
/-! ### the defs that make lambdas -/
structure LamCtx (K : PySem.W.Frag) (mg : Str → Option Value) (base : Heap) (x : Str) : Prop where
  ex : ∃ c P, lamTabs K = [(c, P, x ++ ".<locals>." ++ "<lambda>")] ∧ LamX.TabB base mg c P
end FF

/-! FFTac: the walk, by the text and the core side by side. -/
namespace FF
open PySem PySem.Spec PyProof.Rows L2
section
variable {X : Cx} {W : EK X.K} {φ : Fn} {pos : Pos}
theorem un_of {k n : Nat} {A : Around} (r : Room k A) (h : n ≤ 200) : A.units + n < cLine := by have := r.un; omega
/-- a def of the text, as the top leaves it -/
structure DefIn (K : PySem.W.Frag) (mg : Str → Option Value) (st : Stmt) (x : Str) : Prop where
  ex : ∃ (f : Addr) (oc : Value) (od : Option Addr) (kV doc pm : Value) (an : Option Addr) (cdv ct : Value) (osl : Array (Option Value)),
    K.lookup f = some ⟨oc, od, .func (PySem.W.fnOf x x (defArgs st) (defBody st) (defScope st) .none kV doc pm an cdv ct), osl⟩ ∧ PySem.W.codeIn K cdv x = true ∧ mg x = some (.ref f) ∧ PySem.W.keepIn K (.ref f) = true
theorem cal_zero {P : Program} {w : World} {K : PySem.W.Frag} {mg : Str → Option Value} {base : Heap} {st : Stmt} {x : Str} {ps : List Str} {tbl : List (Nat × Def)} {id : Nat} (D : DefIn K mg st x) : Cal P w K mg base 0 (run tbl 0 id) st x ps := by
  obtain ⟨f, oc, od, kV, doc, pm, an, cdv, ct, osl, _, _, hm, hk⟩ := D.ex
  refine ⟨f, kV, doc, pm, an, cdv, ct, ⟨fun vs H Q ⟨_, _, _, _, _, _, ok⟩ => ok.elim, fun _ _ _ _ _ _ _ _ _ _ _ _ _ ⟨_, _, _, _, _, _, ok⟩ => ok.elim⟩, hm, hk⟩
theorem cal_succ {P : Program} {w : World} {K : PySem.W.Frag} {mg : Str → Option Value} {base : Heap} {st : Stmt} {x : Str} {ps N : List Str} {φ : Fn} {d : Def} {k : Nat} (D : DefIn K mg st x) (S : FnScope N ps (defScope st)) (hn : d.names.length = N.length) (hp : d.nps = ps.length)
    (body : ∀ (f : Addr) (cdv : Value) (A : Around) (outer : List Env) (s : Shared) (H : Hp), A.guards = some [] → Room k (A.deeper (envOfC x (defScope st) s.heap.objs.size f cdv)) → SB (Xb P w K mg base N x (defScope st) f cdv A outer s H) (EK.none K) (defBody st) (exB φ d.body)) :
    Cal P w K mg base (k + 1) (runDef φ d) st x ps := by
  obtain ⟨f, oc, od, kV, doc, pm, an, cdv, ct, osl, lk, ci, hm, hk⟩ := D.ex
  exact cal_of lk ci hm hk S hn hp (body f cdv)
theorem fg_def {P : Program} {w : World} {K : PySem.W.Frag} {mg : Str → Option Value} {base : Heap} {st : Stmt} {x : Str} {ps N : List Str} {φ : Fn} {d : Def} {k : Nat} {f : Addr} {oc : Value} {od : Option Addr} {kV doc pm : Value} {an : Option Addr} {cdv ct : Value} {osl : Array (Option Value)}
    (lk : K.lookup f = some ⟨oc, od, .func (PySem.W.fnOf x x (defArgs st) (defBody st) (defScope st) .none kV doc pm an cdv ct), osl⟩) (ci : PySem.W.codeIn K cdv x = true) (S : FnScope N ps (defScope st)) (hn : d.names.length = N.length) (hp : d.nps = ps.length)
    (body : ∀ (f : Addr) (cdv : Value) (A : Around) (outer : List Env) (s : Shared) (H : Hp), A.guards = some [] → Room k (A.deeper (envOfC x (defScope st) s.heap.objs.size f cdv)) → SB (Xb P w K mg base N x (defScope st) f cdv A outer s H) (EK.none K) (defBody st) (exB φ d.body)) :
    Fg P w K mg base (k + 1) f (PySem.W.fnOf x x (defArgs st) (defBody st) (defScope st) .none kV doc pm an cdv ct) ps (spF K (runDef φ d)) := by
  have hpl : ps.length ≤ N.length := by have := congrArg List.length S.pre; rw [List.length_take] at this; omega
  refine fg_of lk ci S (fun vs H Q h => ?_) (fun A outer s H vs Q hgd hr h => ?_)
  · rw [← hp]; exact (body_ok h hn (by rw [hp]; exact hpl)).1
  · exact ⟨_, body f cdv A outer s H hgd hr, (body_ok h hn (by rw [hp]; exact hpl)).2⟩
theorem ar1 {α β : Type} {B : List α → Prop} {x0 : β} (h : ∀ u0, B [u0]) : ∀ us : List α, us.length = [x0].length → B us := fun us hl => match us, hl with | [u0], _ => h u0
theorem ar2 {α β : Type} {B : List α → Prop} {x0 x1 : β} (h : ∀ u0 u1, B [u0, u1]) : ∀ us : List α, us.length = [x0, x1].length → B us := fun us hl => match us, hl with | [u0, u1], _ => h u0 u1
theorem ar3 {α β : Type} {B : List α → Prop} {x0 x1 x2 : β} (h : ∀ u0 u1 u2, B [u0, u1, u2]) : ∀ us : List α, us.length = [x0, x1, x2].length → B us := fun us hl => match us, hl with | [u0, u1, u2], _ => h u0 u1 u2
end
end FF

/-! FFExc: exceptions through calls. -/
namespace FF
open PySem PySem.Spec PyProof.Rows L2
/-- how an exception of ours lies in the model -/
def RX (K : PySem.W.Frag) (mg : Str → Option Value) (Fr ρ : List Addr) (H : Hp) (e : D) (cls : Value) (d : Option Addr) : Prop :=
  ∃ c ds C, e = .exn c ds ∧ mg (Str.ofString c) = some (.ref C) ∧ cls = .ref C ∧
    ((ds = [] ∧ d = none) ∨ ∃ x dd v, ds = [x] ∧ d = some dd ∧ H dd = some (.xd [(fldOf c, v)]) ∧ dd ∉ Fr ∧ RD K Fr ρ H x v)
/-- what is wished of an exception, at any slots -/
def EKW (K : PySem.W.Frag) (mg : Str → Option Value) (n : Nat) (W : WX) : EK K :=
  ⟨fun Fr ρ H _ e h => ∀ σ' ρ' H' cls d, List.length σ' = n → Ext ρ H ρ' H' → HR K Fr ρ' h H' → RX K mg Fr ρ' H' e cls d → W cls d σ' H',
   fun x r p σ' ρ' H' cls d hl x2 r2 rx => p σ' ρ' H' cls d hl (x.step r x2) r2 rx⟩
theorem EKW.flat {K : PySem.W.Frag} {mg : Str → Option Value} {n : Nat} {W : WX} : (EKW K mg n W).flat := fun _ _ _ _ _ _ _ h => h
abbrev SpX := List V → Hp → VK → XK → Prop
/-- the promise of a def that may raise -/
structure FgX (P : Program) (w : World) (K : PySem.W.Frag) (mg : Str → Option Value) (base : Heap) (k : Nat) (f : Addr) (fd : FuncData) (ps : List Str) (sp : SpX) : Prop where
  many : ∀ vs H Q E, sp vs H Q E → vs.length = ps.length
  goes : ∀ (A : Around) (outer : List Env) (s : Shared) (H : Hp) (args : Args) (us : List Value) (vs : List V) (Q : VK) (E : XK),
    A.guards = some [] → Room k A → Env0 P w K mg base A outer s H → BindsTo s fd args (ps.zip us) → Vals vs us → sp vs H Q E →
    codeAny (model P w) A (.call (.ref f) args) (CR (L2.CX P w) outer P w H s Q E) s
/-- the context of the body of a def that may raise -/
abbrev Xe (P : Program) (w : World) (K : PySem.W.Frag) (mg : Str → Option Value) (base : Heap) (N : List Str) (qual : Str) (sc : Scope) (f : Addr) (cd : Value) (A : Around) (outer : List Env) (s : Shared) (H : Hp) (E : XK) : Cx :=
  cxOf (L2.CX P w) P w K mg base N qual sc f cd A outer s H E
section
variable {P : Program} {w : World} {K : PySem.W.Frag} {mg : Str → Option Value} {base : Heap}
end
/-! ### calls -/
section
variable {X : Cx} {k : Nat} {f : Addr} {fd : FuncData} {ps : List Str} {sp : SpX} {x : Str} {p pos : Pos} {e : Expr} {es : List Expr} {t : TA} {W : WX}
/-- what a def promises that may raise -/
def spX (K : PySem.W.Frag) (mg : Str → Option Value) (f : List D → Hq → R (D × Hq)) : SpX := fun vs H Q E => ∃ Fr ρ h ds, HR K Fr ρ h H ∧ RDs K Fr ρ H ds vs ∧
  okR (Kont K Fr ρ H Q) (fun e h' => ∀ ρ' H' cls d, Ext ρ H ρ' H' → HR K Fr ρ' h' H' → RX K mg Fr ρ' H' e cls d → E cls d H') (f ds h)
structure CalX (P : Program) (w : World) (K : PySem.W.Frag) (mg : Str → Option Value) (base : Heap) (k : Nat) (fx : List D → Hq → R (D × Hq)) (st : Stmt) (x : Str) (ps : List Str) : Prop where
  ex : ∃ (f : Addr) (kV doc pm : Value) (an : Option Addr) (cdv ct : Value), FgX P w K mg base k f (PySem.W.fnOf x x (defArgs st) (defBody st) (defScope st) .none kV doc pm an cdv ct) ps (spX K mg fx) ∧ mg x = some (.ref f) ∧ PySem.W.keepIn K (.ref f) = true
end
/-! ### a call that never raises, among those that may -/
section
variable {X : Cx} {k : Nat} {fx : List D → Hq → R (D × Hq)} {st : Stmt} {ps : List Str} {x : Str} {p pos : Pos} {e : Expr} {es : List Expr} {W : EK X.K}
end
mutual
theorem thaw_pureE {n : Nat} {g : List D → Option (List D)} {h : Hq} : ∀ d : D, d.pure = true → D.thaw n g h d = some d
  | .non, _ => by unfold D.thaw; rfl
  | .bl _, _ => by unfold D.thaw; rfl
  | .int _, _ => by unfold D.thaw; rfl
  | .str _, _ => by unfold D.thaw; rfl
  | .tup ds, q => by unfold D.pure at q; unfold D.thaw; rw [thaws_pureE ds q]; rfl
  | .lst ds, q => by unfold D.pure at q; unfold D.thaw; rw [thaws_pureE ds q]; rfl
  | .scr _, _ => by unfold D.thaw; rfl
  | .ktp _, _ => by unfold D.thaw; rfl
  | .kpp _, _ => by unfold D.thaw; rfl
  | .ref _, q => by unfold D.pure at q; cases q
  | .dct ds, q => by unfold D.pure at q; unfold D.thaw; rw [thaws_pureE ds q]; rfl
  | .exn _ ds, q => by unfold D.pure at q; unfold D.thaw; rw [thaws_pureE ds q]; rfl
  | .opq _, _ => by unfold D.thaw; rfl
theorem thaws_pureE {n : Nat} {g : List D → Option (List D)} {h : Hq} : ∀ ds : List D, D.pures ds = true → D.thaws n g h ds = some ds
  | [], _ => by unfold D.thaws; rfl
  | d :: ds, q => by
    unfold D.pures at q
    rw [Bool.and_eq_true] at q
    unfold D.thaws
    rw [thaw_pureE d q.1, thaws_pureE ds q.2]
end
/-! ### defs that may raise (they change nothing of their caller's) -/
section
variable {K : PySem.W.Frag} {mg : Str → Option Value} {H : Hp}
end
end FF

/-! FFExc2: raise, try. -/
namespace FF
open PySem PySem.Spec PyProof.Rows L2
section
variable {X : Cx} {C : Addr} {bmB : List Value} {B newId initId : String}
end
end FF

/-! FFExc3: try: body, except C as e: return [tag, isinstance(e, F)]. -/
namespace FF
open PySem PySem.Spec PyProof.Rows L2
section
variable {X : Cx} {C CF : Addr} {tag n : Str} {i : Nat}
end
end FF

/-! FFExc4: rules by core form, where exceptions may leave. -/
namespace FF
open PySem PySem.Spec PyProof.Rows L2
section
variable {X : Cx} {W : EK X.K} {φ : Fn} {pos : Pos}
end
section
variable {X : Cx} {W : WX} {φ : Fn} {pos : Pos} {n : Nat}
end
end FF

/-! FFExcF: an own error with one field: its __init__ calls super().__init__ and keeps what was given. -/
namespace FF
open PySem PySem.Spec PyProof.Rows L2
section
variable {P : Program} {w : World} {M : Model} {A : Around} {E : Value → Shared → Prop} {hp : Heap} {gs : Array GenState} {dr : Drawn} {tk : Nat} {os : OsState}
variable {nm q : Str} {C N : Addr} {bs bm : List Value} {hdct : Bool} {sn : List Str} {sub : List Value} {ab : Bool} {col : Option Bool} {dd : Option Addr} {k0 k1 k2 k3 k5 : Option Value}
/-- the bound __init__ of ValueError, called -/
theorem mw_called {u a t0 : Addr} {xs : List Value} {Q : Value → Shared → Prop} (cls : hp.get? C = some (excClassObj nm q C N bs bm hdct sn sub ab col dd k0 k1 k2 k3 k5 "ValueError.__new__"))
    (ha : hp.get? a = some (HandSPX.excO C t0)) (hu : hp.get? u = some (PySem.W.kxs_mw "ValueError.__init__" a)) (hx : xs.length ≤ sizeLine)
    (fin : ∀ g1 t1, (∀ b o, b ≠ a → hp.get? b = some o → g1.get? b = some o) → g1.get? a = some (HandSPX.excO C t1) → Q .none ⟨g1, gs, dr, tk, os⟩) :
    wpAny (model P w) A (call (.ref u) xs) Q E ⟨hp, gs, dr, tk, os⟩ := by
  refine wpAny_call (codeAny_of_tree (show wpAny _ A.in1 (callAny (.ref u) ⟨xs, []⟩) _ _ _ from ?_))
  simp only [callAny]
  refine wpAny_bind (wpAny_load hu ?_)
  have m1 : (Value.type "method-wrapper" == Value.type "method" || Value.type "method-wrapper" == Value.type "builtin_function_or_method" || Value.type "method-wrapper" == Value.type "method-wrapper") = true := by decide
  simp only [PySem.W.kxs_mw, m1, if_true]
  refine PySem.W.KFB.if_so (by decide) (wpAny_bind (ESX.check_bound F.excBase_ValueError cls ha rfl (wpAny_bind (wpAny_pure (wpAny_pure ⟨Code.quiet_builtin _ (by decide +kernel), ?_⟩)))))
  refine codeAny_builtin F.excBase_ValueError.initEntry ?_
  rw [Around.under_plainId F.excBase_ValueError.init.plain _]
  wp_walk
  refine fin _ hp.objs.size (fun b o ne e => ?_) ?_
  · exact (Heap.get?_update_other _ _ (Ne.symm ne)).trans (Heap.get?_push_of_some _ e)
  · exact (Heap.get?_update_self _ (Heap.get?_push_of_some _ ha) rfl).trans rfl
open PySem.W in
theorem mw_callWith {pos : Pos} {u a : Addr} {env : Env} {e : Expr} {Q : Value → Shared → Prop} {s : Shared}
    (hs : starEach [e] env = [(false, eval e env)])
    (go : wpAny M A (eval e env) (fun v s1 => s1.heap.get? u = some (kxs_mw "ValueError.__init__" a) ∧ wpAny M A (call (.ref u) [v]) Q E s1) E s) :
    wpAny M A (callWith pos (.ref u) [] (backTo pos (starEach [e] env)) []) Q E s := by
  rw [hs]
  refine kxs_callWith (i := "ValueError.__init__") (x := a) rfl (Calls.evalArgs_plain ?_)
  exact Calls.spliced_cons (wpAny_mono go (fun v s1 z => Calls.spliced_nil z) fun _ _ z => z)
end
/-! ### the __init__ -/
/-- def __init__(self, f): super().__init__(f); self.f = f -/
structure InitSt (st : Stmt) (f : Str) : Prop where
  body : ∃ (p0 p1 p2 p3 p4 p5 p6 p7 p8 p9 : Pos), defBody st = [.Expr (.Call (.Attribute (.Call (.Name "super" p0) [] [] p1) "__init__" p2) [.Name f p3] [] p4) p5, .Assign [.Attribute (.Name "self" p6) f p7] (.Name f p8) p9] ∧
    (∃ pl : Env → Sem Bool, ∀ env, eval (.Call (.Attribute (.Call (.Name "super" p0) [] [] p1) "__init__" p2) [.Name f p3] [] p4) env = (do
      let ov ← attributeBase (.Call (.Name "super" p0) [] [] p1) "__init__" env (eval (.Call (.Name "super" p0) [] [] p1) env)
      standAt p2.atName
      let (g, first) ← holding [ov] (getMethod ov "__init__" (pl env))
      callWith p4 g first (backTo p4 (starEach [.Name f p3] env)) [])) ∧
    (∀ env, interactive env = false → swapsWith (.Call (.Attribute (.Call (.Name "super" p0) [] [] p1) "__init__" p2) [.Name f p3] [] p4) none p5.line env = pure false) ∧
    ∀ env, swapsWith (.Name f p8) (some (.Attribute (.Name "self" p6) f p7)) p9.line env = pure false
  arg : ∃ ar : Arg, ((defArgs st).posonlyargs ++ (defArgs st).args).head? = some ar ∧ ar.arg = "self"
  n1 : (defScope st).names.lookup ("super" : Str) = some .globalImplicit
  n2 : (defScope st).names.lookup ("__class__" : Str) = some .free
  n3 : (defScope st).names.lookup ("self" : Str) = some .local
  n4 : (defScope st).names.lookup f = some .local
  d4 : (f == ("__debug__" : Str)) = false
  ne : (("self" : Str) == f) = false
  cell : ∀ x ∈ (defScope st).names, x.2 ≠ .cell
  co : (defScope st).isCoroutine = false
  gn : (defScope st).isGenerator = false
  kd : (defScope st).kind = .function
section
open PySem.W
variable {P : Program} {w : World} {A : Around} {hp : Heap} {gs : Array GenState} {dr : Drawn} {tk : Nat} {os : OsState} {K : Frag}
theorem init_runs {st : Stmt} {f q : Str} {a C fI cc cda t0 : Addr} {u dV kV doc pm ct oc ccl cl : Value} {an od cdd cld : Option Addr} {osl ccs csl : Array (Option Value)} {vs : Array Value} {file : Str} {tf : Tok} {mg mb : Str → Option Value} {R : Result → Shared → Prop}
    (T : OexC K C) (S : InitSt st f) (ve : subIn K (.ref C) (.type "ValueError") = some true) (slf : mroIn K C (.ref C) = some true) (sup : ks_superIn K C C "__init__" = some (some (.builtin "ValueError.__init__")))
    (thd : nsIn K cStatics "thirdparty.any" = some none) (mgS : mg "super" = none) (no : findIn K (.ref C) f = some none) (top : (P.main.scope.names.lookup ("super" : Str)).isSome = false)
    (lk : K.lookup fI = some ⟨oc, od, .func (ksFn "__init__" q (defArgs st) (defBody st) (defScope st) dV kV doc pm an (.ref cda) ct cc), osl⟩) (ci : codeIn K (.ref cda) q = true)
    (lc : K.lookup cda = some ⟨ccl, cdd, .fields vs, ccs⟩) (hvs : vs[2]? = some (.str file tf)) (hfile : ((P.main.file : Str) == file) = true) (lcell : K.lookup cc = some ⟨cl, cld, .cell (some (.ref C)), csl⟩)
    {args : Args} (bind : bindArgs (ksFn "__init__" q (defArgs st) (defBody st) (defScope st) dV kV doc pm an (.ref cda) ct cc) args = pure [(("self" : Str), .ref a), (f, u)])
    (X : K.In hp) (G : hp.Ns mainGlobals mg) (B : hp.Ns builtinsNs mb) (hmb : mb "super" = some (.type "super")) (lim : hp.NoLimit) (room : A.depth < recursionLimit)
    (ha : hp.get? a = some (HandSPX.excO C t0)) (hnK : ∀ o, K.lookup a ≠ some o)
    (fin : ∀ g1 tk1 d t1, (∀ b o, b ≠ a → hp.get? b = some o → g1.get? b = some o) → hp.get? d = none → d ≠ a → g1.get? a = some { cls := .ref C, dict := some d, data := .fields #[.ref t1, .none, .none, .none, .bool false, .none] } →
      g1.Ns1 d (fun y => if y = f then some u else none) → R (.ok (.ret .none)) ⟨g1, gs, dr, tk1, os⟩) :
    codeAny (model P w) A (.call (.ref fI) args) R ⟨hp, gs, dr, tk, os⟩ := by
  obtain ⟨p0, p1, p2, p3, p4, p5, p6, p7, p8, p9, hB, ⟨pl, hev⟩, hsw1, hsw2⟩ := S.body
  obtain ⟨ar, har, hself⟩ := S.arg
  obtain ⟨nm, q0, N, bs, bm, sn, sub, ab, col, dd, k0, k1, k2, k3, k5, hC, hbm⟩ := T.cls
  have hcl : clsIn K C = some { name := nm, bases := bs, mro := .ref C :: bm, ns := N, qualname := q0, hasDict := true, slotNames := sn, subclasses := sub, abstract := ab, collection := col, hasDel := false } := by unfold clsIn; rw [hC] <;> rfl
  rw [hB] at lk bind
  refine ks_codeAny_call_defAt (fd := ksFn "__init__" q (defArgs st) _ (defScope st) dV kV doc pm an (.ref cda) ct cc) (body := _) (binds := [(("self" : Str), .ref a), (f, u)]) room (X _ _ lk) rfl lim (codeRec_of X ci) rfl (.of_eq bind) S.cell (fun y hy => ?_) (fun h0 ns0 k0 => ?_) S.co S.gn S.kd
  · rcases List.mem_cons.mp hy with rfl | hy
    · exact S.n3
    · rcases List.mem_cons.mp hy with rfl | hy
      · exact S.n4
      · cases hy
  have X0 : K.In h0 := X.keeps k0
  have ha0 := k0 _ _ ha
  have vself : (fun x => List.lookup x ([(("self" : Str), Value.ref a), (f, u)] : List (Str × Value)).reverse) "self" = some (.ref a) := by
    show List.lookup ("self" : Str) [(f, u), (("self" : Str), Value.ref a)] = _
    simp [List.lookup, S.ne]
  have vf : (fun x => List.lookup x ([(("self" : Str), Value.ref a), (f, u)] : List (Str × Value)).reverse) f = some u := by
    show List.lookup f [(f, u), (("self" : Str), Value.ref a)] = _
    simp [List.lookup]
  have kn : ∀ c, (HandSPX.excO C t0).data ≠ .cls c := fun c z => by cases z
  obtain ⟨oC, hoC, dC⟩ : ∃ oC, K.lookup C = some oC ∧ oC.data = .cls { name := nm, bases := bs, mro := .ref C :: bm, ns := N, qualname := q0, hasDict := true, slotNames := sn, subclasses := sub, abstract := ab, collection := col, hasDel := false } := ⟨_, hC, rfl⟩
  have hint : ∀ {L : Addr} {b : List Stmt}, interactive (callEnv (ksFn "__init__" q (defArgs st) b (defScope st) dV kV doc pm an (.ref cda) ct cc) L fI) = false := fun {L b} => by
    unfold interactive
    show ((defScope st).kind == ScopeKind.module && _) = false
    rw [S.kd]
    rfl
  refine ks_wpAt_execs_cons (ks_wpAt_Expr_any (ks_wpAt_MethodCall ?main (hev _)) hint (hsw1 _ hint))
  refine ks_wpAt_super_base S.n1 S.n2 (by decide) rfl (X0 _ _ lk) rfl har rfl (X0 _ _ lc) rfl hvs hfile top ?_
  refine ks_loadName_global S.kd S.n1 (Calls.loadGlobal_builtin (G.keeps k0) mgS (B.keeps k0) hmb ⟨rfl, ?_⟩)
  refine wpAny_loadName_free S.kd S.n2 rfl ⟨_, X0 _ _ lcell, rfl⟩ ?_
  rw [hself]
  refine wpAny_loadName_local S.kd S.n3 ns0 vself ?_
  refine ks_wpAny_isType_cls (X0 _ _ hoC) dC ⟨rfl, ?_⟩
  refine ks_wpAny_call_super (X0 _ _ hoC) dC ha0 rfl kn (looks_mroIn X0 slf) (fun h1 e1 kk => ?_)
  have X1 : K.In h1 := X0.keeps kk
  have ha1 := kk _ _ ha0
  have along : alongIn K "__init__" (((Value.ref C :: bm).dropWhile (· != .ref C)).drop 1) = some (some (.builtin "ValueError.__init__")) := by
    unfold ks_superIn at sup
    rw [hcl] at sup
    exact sup
  have I1 : InstAt h1 a (HandSPX.excO C t0) C none := ⟨ha1, rfl, rfl, trivial⟩
  have isVE : Looks (model P w) h1 (isInstance (.ref a) (.type "ValueError")) true := I1.type.andThen (looks_subIn X1 ve)
  refine kxs_getMethod kxs_ValueError e1 (looks_opaque X1 thd) (l₀ := .ref C :: bm) (fun A Q E s k q => wpAny_bind ((looks_clsIn X1 hcl) A _ E s k (wpAny_pure q))) rfl X1 along isVE (ks_ne X1 I1 hcl) (by decide) ?_
  have k2 : ∀ b o, h1.get? b = some o → (h1.push (kxs_mw "ValueError.__init__" a)).get? b = some o := fun b o e => Heap.get?_push_of_some _ e
  have kx : ∀ b o, h0.get? b = some o → (h1.push (kxs_mw "ValueError.__init__" a)).get? b = some o := fun b o e => k2 b o (kk b o e)
  refine mw_callWith (a := a) rfl ?_
  refine ESX.ldL (ns0.keeps kx) vf ⟨Heap.get?_push_at rfl rfl, ?_⟩ S.kd S.n4 S.d4
  refine mw_called (k2 _ _ (X1 _ _ hC)) (k2 _ _ ha1) (Heap.get?_push_at rfl rfl) (by show 1 ≤ sizeLine; rw [sizeLine_eq]; omega) (fun g2 t2 k3 e2 => ?_)
  have nL : hp.objs.size ≠ a := Nat.ne_of_gt (Heap.lt_size ha)
  have stays : ∀ {b : Addr} {o : Obj}, K.lookup b = some o → b ≠ a := fun {b o} e z => hnK o (z ▸ e)
  have X2 : K.In g2 := fun b o e => k3 b o (stays e) (kx b o (X0 b o e))
  have ns2 : g2.Ns hp.objs.size (fun x => List.lookup x ([(("self" : Str), Value.ref a), (f, u)] : List (Str × Value)).reverse) := ns0.at fun o e => k3 _ _ nL (kx _ _ e)
  show PySem.wpAt _ _ _ _ _ _ _
  refine PySem.wpAt_of_wpAny (wpAny_execs_cons (plainObj_wpAny_Assign_Attribute (ESX.ldL ns2 vf (ESX.ldL ns2 vself ?_ S.kd S.n3) S.kd S.n4 S.d4) (hsw2 _)))
  refine set_plain X2 (ox := HandSPX.excO C t2) (od := none) ⟨e2, rfl, rfl, trivial⟩ T.sa ?_
  refine HandSPX.exc_osa X2 e2 hcl (show HandSPX.refsVE (.ref C :: bm) = true from hbm) rfl no (fun g3 tk3 d k4 dn dne e3 nsd => ?_)
  refine wpAny_execs_nil ?_
  refine fin g3 tk3 d t2 (fun b o hb e => k4 b o hb (k3 b o hb (kx b o (k0 b o e)))) ?_ dne e3 nsd
  cases z : hp.get? d with
  | none => rfl
  | some o =>
    have z2 := k3 d o dne (kx d o (k0 d o z))
    exact absurd (Heap.lt_size z2) (Nat.not_lt.mpr dn)
end
/-- what the text says of an error class that keeps one field -/
structure FldC (P : Program) (K : PySem.W.Frag) (mg : Str → Option Value) (C : Addr) (f : Str) : Prop where
  oex : OexC K C
  ve : PySem.W.subIn K (.ref C) (.type "ValueError") = some true
  slf : PySem.W.mroIn K C (.ref C) = some true
  sup : PySem.W.ks_superIn K C C "__init__" = some (some (.builtin "ValueError.__init__"))
  thd : PySem.W.nsIn K cStatics "thirdparty.any" = some none
  mgS : mg "super" = none
  no : PySem.W.findIn K (.ref C) f = some none
  top : (P.main.scope.names.lookup ("super" : Str)).isSome = false
  init : ∃ (st : Stmt) (q : Str) (fI cc cda : Addr) (dV kV doc pm ct oc ccl cl : Value) (an od cdd cld : Option Addr) (osl ccs csl : Array (Option Value)) (vs : Array Value) (file : Str) (tf : Tok),
    InitSt st f ∧ PySem.W.findIn K (.ref C) "__init__" = some (some (.ref fI)) ∧ PySem.W.typeIn K (.ref fI) = some (.type "function") ∧
    K.lookup fI = some ⟨oc, od, .func (PySem.W.ksFn "__init__" q (defArgs st) (defBody st) (defScope st) dV kV doc pm an (.ref cda) ct cc), osl⟩ ∧ PySem.W.codeIn K (.ref cda) q = true ∧
    K.lookup cda = some ⟨ccl, cdd, .fields vs, ccs⟩ ∧ vs[2]? = some (.str file tf) ∧ ((P.main.file : Str) == file) = true ∧ K.lookup cc = some ⟨cl, cld, .cell (some (.ref C)), csl⟩ ∧
    (∀ (a : Addr) (u : Value), bindArgs (PySem.W.ksFn "__init__" q (defArgs st) (defBody st) (defScope st) dV kV doc pm an (.ref cda) ct cc) ⟨[.ref a, u], []⟩ = pure [(("self" : Str), .ref a), (f, u)]) ∧ ∀ (a : Addr) (u : Value), bindArgs (PySem.W.ksFn "__init__" q (defArgs st) (defBody st) (defScope st) dV kV doc pm an (.ref cda) ct cc) ⟨[.ref a], [(f, u)]⟩ = pure [(("self" : Str), .ref a), (f, u)]
section
variable {X : Cx}
theorem fld_un {pins : List (Addr × Obj)} {σ : L2.St} {H : Hp} {h1 g1 : Heap} {gs : Array GenState} {dr : Drawn} {tk : Nat} {os : OsState} {a C d t1 : Addr} {f : Str} {y : V} {u : Value}
    (I : L2.Inv X pins σ H ⟨h1, gs, dr, tk, os⟩) (ea : H a = some (exo a C none)) (kb : ∀ b o, b ≠ a → h1.get? b = some o → g1.get? b = some o) (dn : h1.get? d = none) (dne : d ≠ a)
    (ga : g1.get? a = some { cls := .ref C, dict := some d, data := .fields #[.ref t1, .none, .none, .none, .bool false, .none] }) (gd : g1.Ns1 d (fun z => if z = f then some u else none)) (ry : RelV y u) :
    Un (frs X.stack) [] H (upd (upd H d (exd d [(f, y)])) a (exo a C (some d))) h1 g1 ∧ HOk X.prog X.w (upd (upd H d (exd d [(f, y)])) a (exo a C (some d))) g1 := by
  have hd0 : H d = none := I.hok.gone dn
  have sd : ∀ {b : Addr} {o : Obj}, h1.get? b = some o → b ≠ d := fun {b o} e z => by
    rw [z, dn] at e
    cases e
  have sa : ∀ {b : Addr}, H b = none → b ≠ a := fun {b} n z => by
    rw [z, ea] at n
    cases n
  refine ⟨⟨fun b o e n _ _ => kb b o (sa n) e, fun b o e n _ _ => ⟨o.slots, kb b o (sa n) e⟩, fun b o e n _ => ?_, fun b o e _ => ?_, fun b xs e => ?_, fun b o v e => ?_, fun b ps e => ⟨#[], ?_⟩⟩, fun b o e => ?_⟩
  · rw [upd_ne (sa n), upd_ne (sd e)]
    exact n
  · by_cases hb : b = a
    · exact ⟨_, hb ▸ ga⟩
    · exact ⟨o, kb b o hb e⟩
  · rw [upd_ne (at_ne ea e exo_tup), upd_ne (ne_of_none e hd0)]
    exact e
  · rw [upd_ne (at_ne ea e exo_frz), upd_ne (ne_of_none e hd0)]
    exact e
  · rw [upd_ne (at_ne ea e exo_tbl), upd_ne (ne_of_none e hd0), e]
    simp
  · by_cases hb : b = a
    · subst hb
      rw [upd_same] at e
      cases e
      exact exo_ok ga
    · rw [upd_ne hb] at e
      by_cases hbd : b = d
      · subst hbd
        rw [upd_same] at e
        cases e
        exact exd_ok gd (relO_put (fs := []) ry fun g => True.intro)
      · rw [upd_ne hbd] at e
        have own : ∀ {c : Addr}, H c = some (.own b) → c ≠ a := fun {c} hc => at_ne ea hc exo_own
        refine (I.hok b o e).stay (fun c v hc z => kb c v (hc.elim (fun hc z2 => hb (hc ▸ z2)) own) z) (fun c hc => ?_) fun c xs hc => ?_
        · rw [upd_ne (own hc), upd_ne (ne_of_none hc hd0)]
          exact hc
        · rw [upd_ne (at_ne ea hc exo_tup), upd_ne (ne_of_none hc hd0)]
          exact hc
end
end FF

/-! FFTryM: raise with a field; try with several clauses, each with its name. -/
namespace FF
open PySem PySem.Spec PyProof.Rows L2
/-! ### raise C(e) -/
section
variable {X : Cx} {C : Addr} {W : WX} {n k : Nat} {φ : Fn}
/-! ### clauses -/
/-- what a clause does: the class, the slot of its name, its suite -/
structure HandI where
  c : Value
  i : Nat
  ts : Addr → Value → Option Addr → TS
abbrev endsAt (i : Nat) (D : Ends) : Ends := { nx := fun σ' H' => D.nx (σ'.set i none) H', rt := D.rt, bk := fun σ' H' => D.bk (σ'.set i none) H', ct := fun σ' H' => D.ct (σ'.set i none) H' }
inductive HandsOk (X : Cx) : List ExceptHandler → List HandI → Prop
  | nil : HandsOk X [] []
  | cons {x n : Str} {q : HandI} {s0 : Stmt} {su : List Stmt} {np hp : Pos} {hds : List ExceptHandler} {l : List HandI} (hi : X.N[q.i]? = some n) (hln : X.env.kindOf n = some .local) (nm : Names X x q.c)
      (go : ∀ (a : Addr) (oe : Obj) (cls : Value) (d : Option Addr) (pn : List (Addr × Obj)), Zc cls d oe → (∃ vs, oe.data = .fields vs) → PSs (X.suite a ((a, oe) :: pn)) (s0 :: su) (q.ts a cls d)) (r : HandsOk X hds l) :
      HandsOk X (.ExceptHandler (some (.Name x np)) (some n) (s0 :: su) hp :: hds) (q :: l)
end
/-! ### the suites: return [tag, e.f?, isinstance(e, F)] -/
section
variable {X : Cx} {C CF a : Addr} {tag n : Str} {i : Nat}
def tHandM (C : Addr) (i : Nat) (tag : Str) (fl : Option Str) : Addr → Value → Option Addr → TS := fun a cls d D σ H => σ[i]? = some (some (.ref a)) ∧ cls = .ref C ∧
  match fl with
  | none => d = none ∧ ∀ p, H p = none → D.rt (.ref p) (upd H p (.lst [.str tag, .bl true]))
  | some f => ∃ dd v, d = some dd ∧ H dd = some (.xd [(f, v)]) ∧ ∀ p, H p = none → D.rt (.ref p) (upd H p (.lst [.str tag, v, .bl true]))
end
/-! ### the try -/
structure HD where
  t : Hand
  C : Addr
  i : Nat
def HD.hand (x : HD) : HandI := ⟨.ref x.C, x.i, tHandM x.C x.i x.t.tag (if x.t.fld then some (fldOf x.t.cls) else none)⟩
section
variable {X : Cx}
end
end FF

/-! FFExc5: rules by core form for errors; error classes as the text has them; ( *a, b). -/
namespace FF
open PySem PySem.Spec PyProof.Rows L2
/-- an error class without a field -/
structure Err0 (K : PySem.W.Frag) (mg : Str → Option Value) (c : String) (C : Addr) : Prop where
  g : mg (Str.ofString c) = some (.ref C)
  k : PySem.W.keepIn K (.ref C) = true
  q : PySem.W.excIn K C [.type "ValueError", .type "Exception", .type "BaseException", .type "object"] "ValueError.__new__" = true
  t : PySem.W.typeIn K (.ref C) = some (.type "type")
  e : ExcC K C
  n : NameK K c C
/-- an error class with a field -/
structure Err1 (P : Program) (K : PySem.W.Frag) (mg : Str → Option Value) (c : String) (C : Addr) : Prop where
  g : mg (Str.ofString c) = some (.ref C)
  f : FldC P K mg C (fldOf c)
  x : XfC K C
  e : ExcC K C
  n : NameK K c C
section
variable {X : Cx} {W : WX} {φ : Fn} {pos : Pos} {n k : Nat} {C : Addr} {c : String}
end
/-! ### clauses -/
section
variable {X : Cx} {C CF : Addr} {c : String} {i : Nat} {n : Str}
variable {x tag : Str} {J : Expr} {j : Nat} {p1 p6 p7 p8 p9 np hp : Pos} {hds : List ExceptHandler} {l : List HD}
end
/-! ### a keyword call that never raises, among those that may -/
section
variable {X : Cx} {W : EK X.K} {φ : Fn} {pos : Pos}
/-! a call of a def that may raise, where it is known not to -/
end
end FF

/-! FFErr: what a text says of its error classes, as one closed question. -/
namespace FF
open PySem PySem.Spec PyProof.Rows L2
def oexB (K : PySem.W.Frag) (C : Addr) : Bool := match K.lookup C with
  | some ⟨.type "type", _, .cls cd, sl⟩ => (match cd.mro, sl.toList with
    | .ref C' :: bm, [_, _, _, _, some (.builtin n), _] => C' == C && (n == "ValueError.__new__" && (!cd.hasDel && (cd.hasDict && HandSPX.refsVE bm)))
    | _, _ => false)
  | _ => false
theorem oexB_cls {K : PySem.W.Frag} {C : Addr} (q : oexB K C = true) : ∃ nm q0 N bs bm sn sub ab col dd k0 k1 k2 k3 k5, K.lookup C = some (excClassObj nm q0 C N bs bm true sn sub ab col dd k0 k1 k2 k3 k5 "ValueError.__new__") ∧ HandSPX.refsVE bm = true := by
  unfold oexB at q
  split at q
  · rename_i dd cd sl ho
    split at q
    · rename_i C' bm k0 k1 k2 k3 n k5 hm hs
      obtain ⟨z1, q⟩ := Bool.and_eq_true_iff.mp q
      obtain ⟨z2, q⟩ := Bool.and_eq_true_iff.mp q
      obtain ⟨z3, q⟩ := Bool.and_eq_true_iff.mp q
      obtain ⟨z4, z5⟩ := Bool.and_eq_true_iff.mp q
      cases beq_iff_eq.mp z1
      cases beq_iff_eq.mp z2
      obtain ⟨nm, bs, mro, ns, qn, hd, sn, sub, ab, col, del⟩ := cd
      dsimp only at hm z3 z4
      subst hm
      cases del with
      | true => cases z3
      | false =>
        cases hd with
        | false => cases z4
        | true =>
          have e : sl = #[k0, k1, k2, k3, some (.builtin "ValueError.__new__"), k5] := by
            obtain ⟨l⟩ := sl
            simp only at hs
            rw [hs]
          subst e
          exact ⟨nm, qn, ns, bs, bm, sn, sub, ab, col, dd, k0, k1, k2, k3, k5, ho, z5⟩
    · cases q
  · cases q
/-- the errors' common facts -/
def excCB (K : PySem.W.Frag) (D : Addr) : Bool := decide (PySem.W.findIn K (.ref D) "__getattribute__" = some (some (.builtin "BaseException.__getattribute__"))) && (decide (PySem.W.findIn K (.ref D) "__getattr__" = some none) && (decide (PySem.W.subIn K (.ref D) (.type "BaseException") = some true) &&
  (PySem.W.hasDictIn K D && (decide (PySem.W.findIn K (.ref D) "__class__" = some (some (.builtin "object.__class__"))) && (decide (PySem.W.specialIn K (.builtin "object.__class__") "__get__" = some (some (.builtin "getset_descriptor.__get__"))) &&
    (decide (PySem.W.takesIn K (.builtin "object.__class__") = some true) && (decide (PySem.W.mroIn K D (.type "object") = some true) && (decide (PySem.W.typeIn K (.ref D) = some (.type "type")) && PySem.W.keepIn K (.ref D)))))))))
theorem excCB_ok {K : PySem.W.Frag} {D : Addr} (q : excCB K D = true) : ExcC K D ∧ PySem.W.typeIn K (.ref D) = some (.type "type") ∧ PySem.W.keepIn K (.ref D) = true := by
  unfold excCB at q
  simp only [Bool.and_eq_true, decide_eq_true_eq] at q
  obtain ⟨a1, a2, a3, a4, a5, a6, a7, a8, a9, a10⟩ := q
  exact ⟨⟨a1, a2, a3, a4, a5, a6, a7, a8⟩, a9, a10⟩
def nameB (K : PySem.W.Frag) (c : String) (C : Addr) : Bool := match K.lookup C with
  | some o => (match o.data with | .cls cd => decide (cd.name = c) | _ => false)
  | none => false
theorem nameB_ok {K : PySem.W.Frag} {c : String} {C : Addr} (h : nameB K c C = true) : NameK K c C := by
  unfold nameB at h
  split at h
  · rename_i o ho
    split at h
    · rename_i cd hd
      exact ⟨o, cd, ho, hd, of_decide_eq_true h⟩
    · cases h
  · cases h
theorem err0_by {K : PySem.W.Frag} {mg : Str → Option Value} {c : String} {C : Addr} (g : mg (Str.ofString c) = some (.ref C)) (q : (excCB K C && PySem.W.excIn K C [.type "ValueError", .type "Exception", .type "BaseException", .type "object"] "ValueError.__new__") = true) (hn : nameB K c C = true) : Err0 K mg c C := by
  obtain ⟨q1, q2⟩ := Bool.and_eq_true_iff.mp q
  obtain ⟨e, t, k⟩ := excCB_ok q1
  exact ⟨g, k, q2, t, e, nameB_ok hn⟩
def err1B (K : PySem.W.Frag) (C fI cda : Addr) (f q : Str) : Bool := oexB K C && (decide (PySem.W.findIn K (.ref C) "__setattr__" = some (some (.builtin "object.__setattr__"))) && (decide (PySem.W.subIn K (.ref C) (.type "ValueError") = some true) && (decide (PySem.W.mroIn K C (.ref C) = some true) &&
  (decide (PySem.W.ks_superIn K C C "__init__" = some (some (.builtin "ValueError.__init__"))) && (decide (PySem.W.nsIn K cStatics "thirdparty.any" = some none) && (decide (PySem.W.findIn K (.ref C) f = some none) && (decide (PySem.W.typeIn K (.ref fI) = some (.type "function")) && PySem.W.codeIn K (.ref cda) q)))))))
theorem err1_by {P : Program} {K : PySem.W.Frag} {mg : Str → Option Value} {c : String} {C fI cc cda : Addr} {st : Stmt} {q f : Str} {dV kV doc pm ct oc ccl cl : Value} {an od cdd cld : Option Addr} {osl ccs csl : Array (Option Value)} {vs : Array Value} {file : Str} {tf : Tok}
    (ef : fldOf c = f) (S : InitSt st f) (bind : ∀ (a : Addr) (u : Value), bindArgs (PySem.W.ksFn "__init__" q (defArgs st) (defBody st) (defScope st) dV kV doc pm an (.ref cda) ct cc) ⟨[.ref a, u], []⟩ = pure [(("self" : Str), .ref a), (f, u)]) (bindK : ∀ (a : Addr) (u : Value), bindArgs (PySem.W.ksFn "__init__" q (defArgs st) (defBody st) (defScope st) dV kV doc pm an (.ref cda) ct cc) ⟨[.ref a], [(f, u)]⟩ = pure [(("self" : Str), .ref a), (f, u)])
    (g : mg (Str.ofString c) = some (.ref C)) (mS : mg "super" = none) (iC : PySem.W.findIn K (.ref C) "__init__" = some (some (.ref fI)))
    (lk : K.lookup fI = some ⟨oc, od, .func (PySem.W.ksFn "__init__" q (defArgs st) (defBody st) (defScope st) dV kV doc pm an (.ref cda) ct cc), osl⟩) (lc : K.lookup cda = some ⟨ccl, cdd, .fields vs, ccs⟩) (lcell : K.lookup cc = some ⟨cl, cld, .cell (some (.ref C)), csl⟩)
    (hvs : vs[2]? = some (.str file tf)) (hfile : ((P.main.file : Str) == file) = true) (top : (P.main.scope.names.lookup ("super" : Str)).isSome = false) (h1 : excCB K C = true) (h2 : err1B K C fI cda f q = true) (hn : nameB K c C = true) : Err1 P K mg c C := by
  obtain ⟨e, t, k⟩ := excCB_ok h1
  unfold err1B at h2
  obtain ⟨b1, h2⟩ := Bool.and_eq_true_iff.mp h2
  simp only [Bool.and_eq_true, decide_eq_true_eq] at h2
  obtain ⟨b2, b3, b4, b5, b6, b7, b8, b9⟩ := h2
  subst ef
  exact ⟨g, ⟨⟨oexB_cls b1, b2, e.hs, t, k⟩, b3, b4, b5, b6, mS, b7, top, st, q, fI, cc, cda, dV, kV, doc, pm, ct, oc, ccl, cl, an, od, cdd, cld, osl, ccs, csl, vs, file, tf, S, iC, b8, lk, b9, lc, hvs, hfile, lcell, bind, bindK⟩, ⟨e.hg, e.hk, e.hs, e.hd⟩, e, nameB_ok hn⟩
end FF

/-! FFAli: a def that is called by a second name. -/
namespace FF
open PySem PySem.Spec PyProof.Rows L2
/-- a def of the name x, held by the name y -/
structure DefInA (K : PySem.W.Frag) (mg : Str → Option Value) (st : Stmt) (x y : Str) : Prop where
  ex : ∃ (f : Addr) (oc : Value) (od : Option Addr) (kV doc pm : Value) (an : Option Addr) (cdv ct : Value) (osl : Array (Option Value)),
    K.lookup f = some ⟨oc, od, .func (PySem.W.fnOf x x (defArgs st) (defBody st) (defScope st) .none kV doc pm an cdv ct), osl⟩ ∧ PySem.W.codeIn K cdv x = true ∧ mg y = some (.ref f) ∧ PySem.W.keepIn K (.ref f) = true
structure CalA (P : Program) (w : World) (K : PySem.W.Frag) (mg : Str → Option Value) (base : Heap) (k : Nat) (fx : List D → Hq → R (D × Hq)) (st : Stmt) (x y : Str) (ps : List Str) : Prop where
  ex : ∃ (f : Addr) (kV doc pm : Value) (an : Option Addr) (cdv ct : Value), Fg P w K mg base k f (PySem.W.fnOf x x (defArgs st) (defBody st) (defScope st) .none kV doc pm an cdv ct) ps (spF K fx) ∧ mg y = some (.ref f) ∧ PySem.W.keepIn K (.ref f) = true
section
variable {X : Cx} {k : Nat} {fx : List D → Hq → R (D × Hq)} {st : Stmt} {ps : List Str} {x y : Str} {p pos : Pos} {e : Expr} {es : List Expr}
end
end FF

/-! FFGet: d.get(k, x); dict displays where errors may pass. -/
namespace FF
open PySem PySem.Spec L2
section
variable {X : Cx} {W : EK X.K} {φ : Fn}
/-! ### what never raises -/
def Ex.calm : Ex → Bool
  | .var _ => true
  | .const _ => true
  | .bin _ _ a b => a.calm && b.calm
  | _ => false
def Exs.calm : Exs → Bool
  | .nil => true
  | .cons a r => a.calm && r.calm
end
end FF

/-! FFText: join, split, f-strings of two parts and a text between. -/
namespace FF
open PySem PySem.Spec L2
section
variable {X : Cx} {W : EK X.K} {φ : Fn}
end
end FF

/-! FFLamD: a def that makes a lambda. -/
namespace FF
open PySem PySem.Spec PyProof.Rows L2
end FF

/-! FFKey: dicts whose keys are tuples, nested. -/
namespace FF
open PySem PySem.Spec PyProof.Rows L2
/-! ### a hash without texts -/
mutual
theorem hash_bare (w w' : World) : ∀ k : NestedKey, bareK k = true → k.hash w = k.hash w'
  | .none, _ => rfl
  | .num _, _ => rfl
  | .text _, h => by cases h
  | .tup ks, h => by
    unfold NestedKey.hash
    rw [hashes_bare w w' ks (by unfold bareK at h; exact h)]
theorem hashes_bare (w w' : World) : ∀ ks : List NestedKey, bareKs ks = true → NestedKey.hashes w ks = NestedKey.hashes w' ks
  | [], _ => rfl
  | k :: ks, h => by
    unfold bareKs at h
    rw [Bool.and_eq_true] at h
    unfold NestedKey.hashes
    rw [hash_bare w w' k h.1, hashes_bare w w' ks h.2]
end
theorem bare_nums : ∀ ns : List Int, bareKs (ns.map NestedKey.num) = true
  | [] => rfl
  | n :: ns => by show (true && bareKs (ns.map _)) = true; rw [bare_nums ns]; rfl
mutual
theorem nk_bare : ∀ (d : D) (k : NestedKey), nk d = some k → bareK k = true
  | .non, _, e => by cases e; rfl
  | .bl _, _, e => by cases e; rfl
  | .int _, _, e => by cases e; rfl
  | .str _, _, e => by unfold nk at e; cases e
  | .tup ds, k, e => by
    unfold nk at e
    cases q : nks ds with
    | none => rw [q] at e; cases e
    | some ks => rw [q] at e; cases e; unfold bareK; exact nks_bare ds ks q
  | .lst _, _, e => by unfold nk at e; cases e
  | .scr _, _, e => by unfold nk at e; cases e
  | .ktp ns, k, e => by unfold nk at e; cases e; unfold bareK; exact bare_nums ns
  | .kpp _, _, e => by unfold nk at e; cases e
  | .ref _, _, e => by unfold nk at e; cases e
  | .dct _, _, e => by unfold nk at e; cases e
  | .exn _ _, _, e => by unfold nk at e; cases e
  | .opq _, _, e => by unfold nk at e; cases e
theorem nks_bare : ∀ (ds : List D) (ks : List NestedKey), nks ds = some ks → bareKs ks = true
  | [], _, e => by cases e; rfl
  | d :: ds, ks, e => by
    unfold nks at e
    cases q1 : nk d with
    | none => rw [q1] at e; cases e
    | some k =>
      cases q2 : nks ds with
      | none => rw [q1, q2] at e; cases e
      | some ks' =>
        rw [q1, q2] at e; cases e
        unfold bareKs
        rw [nk_bare d k q1, nks_bare ds ks' q2]; rfl
end
theorem keyN_some {d : D} {k : NestedKey} (h : keyN d = some k) : isTupD d = true ∧ nk d = some k ∧ k.depth ≤ 8 := by
  unfold keyN at h
  split at h
  · rename_i t
    split at h
    · rename_i k' e
      split at h
      · cases h; exact ⟨t, e, by assumption⟩
      · cases h
    · cases h
  · cases h
section
variable {X : Cx} {pins : List (Addr × Obj)} {σ : L2.St} {H : Hp} {s : Shared} {Fr ρ : List Addr}
theorem nums_all (h : Heap) : ∀ (ns : List Int) (us : List Value), Vals (ns.map V.int) us → NestedAll h (ns.map NestedKey.num) us
  | [], us, r => by rw [List.map_nil] at r; cases r; exact .nil
  | n :: ns, us, r => by
    rw [List.map_cons] at r
    cases r with
    | cons a b =>
      obtain ⟨t, rfl⟩ := a
      exact .cons (.int _ _) (nums_all h ns _ b)
mutual
/-- data as a key -/
theorem nk_is (I : Inv X pins σ H s) : ∀ (d : D) (k : NestedKey) (v : V) (u : Value), nk d = some k → RD X.K Fr ρ H d v → RelV v u → NestedIs s.heap k u
  | .non, k, v, u, e, r, q => by
    cases e
    rw [rd_non.mp r] at q
    cases (show u = Value.none from q)
    exact .none
  | .bl b, k, v, u, e, r, q => by
    cases e
    rw [rd_bl.mp r] at q
    cases (show u = Value.bool b from q)
    exact .bool rfl
  | .int i, k, v, u, e, r, q => by
    cases e
    rw [rd_int.mp r] at q
    obtain ⟨t, rfl⟩ := q
    exact .int _ _
  | .str _, _, _, _, e, _, _ => by unfold nk at e; cases e
  | .tup ds, k, v, u, e, r, q => by
    unfold nk at e
    obtain ⟨a, vs, rfl, sq, rs⟩ := r.sqT
    cases (show u = Value.ref a from q)
    obtain ⟨its, rv, ⟨o, e1, e2, n, e3⟩, _⟩ := I.tuple sq
    cases q2 : nks ds with
    | none => rw [q2] at e; cases e
    | some ks =>
      rw [q2] at e; cases e
      exact .tup e1 e2 e3 (nks_is I ds ks vs its q2 rs rv)
  | .lst _, _, _, _, e, _, _ => by unfold nk at e; cases e
  | .scr _, _, _, _, e, _, _ => by unfold nk at e; cases e
  | .ktp ns, k, v, u, e, r, q => by
    unfold nk at e
    cases e
    unfold RD at r
    obtain ⟨a, rfl, kk⟩ := r
    cases (show u = Value.ref a from q)
    obtain ⟨its, rv, ⟨o, e1, e2, n, e3⟩, _⟩ := I.tuple kk.sqT
    exact .tup e1 e2 e3 (nums_all _ ns its rv)
  | .kpp _, _, _, _, e, _, _ => by unfold nk at e; cases e
  | .ref _, _, _, _, e, _, _ => by unfold nk at e; cases e
  | .dct _, _, _, _, e, _, _ => by unfold nk at e; cases e
  | .exn _ _, _, _, _, e, _, _ => by unfold nk at e; cases e
  | .opq _, _, _, _, e, _, _ => by unfold nk at e; cases e
theorem nks_is (I : Inv X pins σ H s) : ∀ (ds : List D) (ks : List NestedKey) (vs : List V) (us : List Value), nks ds = some ks → RDs X.K Fr ρ H ds vs → Vals vs us → NestedAll s.heap ks us
  | [], ks, vs, us, e, r, q => by
    cases e
    unfold RDs at r
    subst r
    cases q
    exact .nil
  | d :: ds, ks, vs, us, e, r, q => by
    unfold nks at e
    unfold RDs at r
    obtain ⟨v, t, rfl, k1, r⟩ := r
    cases q with
    | cons a b =>
      cases q1 : nk d with
      | none => rw [q1] at e; cases e
      | some k =>
        cases q2 : nks ds with
        | none => rw [q1, q2] at e; cases e
        | some ks' =>
          rw [q1, q2] at e; cases e
          exact .cons (nk_is I d k v _ q1 k1 a) (nks_is I ds ks' t _ q2 r b)
end
theorem tup_ref {d : D} {v : V} (t : isTupD d = true) (r : RD X.K Fr ρ H d v) : ∃ a, v = .ref a := by
  cases d <;> first | (cases t; done) | skip
  · obtain ⟨a, _, e, _⟩ := r.tupl; exact ⟨a, e⟩
  · unfold RD at r; obtain ⟨a, e, _⟩ := r; exact ⟨a, e⟩
  · unfold RD at r; obtain ⟨a, e, _⟩ := r; exact ⟨a, e⟩
theorem keyN_is (I : Inv X pins σ H s) {d : D} {k : NestedKey} {v : V} {u : Value} (e : keyN d = some k) (r : RD X.K Fr ρ H d v) (q : RelV v u) : ∃ b, v = .ref b ∧ u = .ref b ∧ (nestedKind X.prog X.w).is s.heap k b := by
  obtain ⟨t, e1, e2⟩ := keyN_some e
  obtain ⟨b, rfl⟩ := tup_ref t r
  cases (show u = Value.ref b from q)
  exact ⟨b, rfl, rfl, nk_is I d k _ _ e1 r rfl, e2⟩

/-! ### the entries -/
theorem NR.cons_inv {K : PySem.W.Frag} {p : D × D} {kvs : List (D × D)} {xs : List (NestedKey × Addr × V)} (r : NR K Fr ρ H (p :: kvs) xs) :
    ∃ k b v t, xs = (k, b, v) :: t ∧ keyN p.1 = some k ∧ RD K Fr ρ H p.1 (.ref b) ∧ RD K Fr ρ H p.2 v ∧ NR K Fr ρ H kvs t := by
  obtain ⟨e, r1, r2⟩ := r
  cases xs with
  | nil => cases e
  | cons x t =>
    obtain ⟨k, b, v⟩ := x
    rw [List.map_cons, List.map_cons] at e
    have e1 := (List.cons.inj e).1
    have e2 := (List.cons.inj e).2
    rw [List.map_cons, List.map_cons] at r1 r2
    unfold RDs at r1 r2
    obtain ⟨v1, t1, z1, q1, s1⟩ := r1
    obtain ⟨v2, t2, z2, q2, s2⟩ := r2
    obtain ⟨y1, y2⟩ := List.cons.inj z1
    obtain ⟨y3, y4⟩ := List.cons.inj z2
    subst y1 y2 y3 y4
    exact ⟨k, b, v, t, rfl, e1, q1, q2, e2, s1, s2⟩
theorem NR.nil {K : PySem.W.Frag} : NR K Fr ρ H [] [] := ⟨rfl, RDs.nil, RDs.nil⟩
theorem NR.cons {K : PySem.W.Frag} {p : D × D} {kvs : List (D × D)} {k : NestedKey} {b : Addr} {v : V} {t : List (NestedKey × Addr × V)} (e : keyN p.1 = some k) (r1 : RD K Fr ρ H p.1 (.ref b)) (r2 : RD K Fr ρ H p.2 v) (r : NR K Fr ρ H kvs t) :
    NR K Fr ρ H (p :: kvs) ((k, b, v) :: t) := ⟨by rw [List.map_cons, List.map_cons, e, r.1], RDs.cons r1 r.2.1, RDs.cons r2 r.2.2⟩
theorem NR.length {K : PySem.W.Frag} {kvs : List (D × D)} {xs : List (NestedKey × Addr × V)} (r : NR K Fr ρ H kvs xs) : kvs.length = xs.length := by
  have := congrArg List.length r.1
  simpa using this
theorem NR.keys (I : Inv X pins σ H s) : ∀ {kvs : List (D × D)} {xs : List (NestedKey × Addr × V)}, NR X.K Fr ρ H kvs xs → ∀ x ∈ xs, (nestedKind X.prog X.w).is s.heap x.1 x.2.1 ∧ bareK x.1 = true
  | [], xs, r, x, hx => by
    have := r.length
    cases xs with
    | nil => cases hx
    | cons _ _ => cases this
  | p :: kvs, xs, r, x, hx => by
    obtain ⟨k, b, v, t, rfl, e, r1, r2, r⟩ := r.cons_inv
    rcases List.mem_cons.mp hx with rfl | hx
    · obtain ⟨b', e1, e2, q⟩ := keyN_is I (u := .ref b) e r1 rfl
      cases e1
      exact ⟨q, nk_bare _ _ (keyN_some e).2.1⟩
    · exact r.keys I x hx
/-- what stands at a key -/
theorem NR.at {K : PySem.W.Frag} (k : NestedKey) : ∀ {kvs : List (D × D)} {xs : List (NestedKey × Addr × V)} {ys : List (NestedKey × Addr × Value)}, NR K Fr ρ H kvs xs → PN xs ys →
    (nget kvs k = none ∧ atKey ys k = none) ∨ ∃ d v b u, nget kvs k = some d ∧ atKey ys k = some (b, u) ∧ RD K Fr ρ H d v ∧ RelV v u
  | [], xs, ys, r, q => by
    have := r.length
    cases xs with
    | nil => cases q; exact .inl ⟨rfl, rfl⟩
    | cons _ _ => cases this
  | p :: kvs, xs, ys, r, q => by
    obtain ⟨k', b, v, t, rfl, e, r1, r2, r⟩ := r.cons_inv
    cases q with
    | @cons _ y _ ys q1 q2 =>
      obtain ⟨yk, yb, yv⟩ := y
      obtain ⟨rfl, rfl, q1⟩ := q1
      by_cases h : k' = k
      · subst h
        refine .inr ⟨p.2, v, b, yv, ?_, ?_, r2, q1⟩
        · unfold nget; rw [List.find?_cons_of_pos (by rw [e]; simp)]; rfl
        · unfold atKey; rw [List.find?_cons_of_pos (by simp)]; rfl
      · rcases NR.at k r q2 with ⟨z1, z2⟩ | ⟨d, v', b', u, z1, z2, z3⟩
        · refine .inl ⟨?_, ?_⟩
          · unfold nget at z1 ⊢; rw [List.find?_cons_of_neg (by rw [e]; simpa using h)]; exact z1
          · unfold atKey at z2 ⊢; rw [List.find?_cons_of_neg (by simpa using h)]; exact z2
        · refine .inr ⟨d, v', b', u, ?_, ?_, z3⟩
          · unfold nget at z1 ⊢; rw [List.find?_cons_of_neg (by rw [e]; simpa using h)]; exact z1
          · unfold atKey at z2 ⊢; rw [List.find?_cons_of_neg (by simpa using h)]; exact z2
/-- the entries behind a store -/
def putXN (xs : List (NestedKey × Addr × V)) (k : NestedKey) (b : Addr) (v : V) : List (NestedKey × Addr × V) :=
  if (xs.any fun x => decide (x.1 = k)) = true then xs.map (fun x => if x.1 = k then (x.1, x.2.1, v) else x) else xs ++ [(k, b, v)]
theorem pn_any (k : NestedKey) : ∀ {xs : List (NestedKey × Addr × V)} {ys : List (NestedKey × Addr × Value)}, PN xs ys → (xs.any fun x => decide (x.1 = k)) = (atKey ys k).isSome
  | _, _, .nil => rfl
  | _, _, .cons (a := x) (b := y) (l₁ := xs) (l₂ := ys) q1 q2 => by
    obtain ⟨e1, e2, q1⟩ := q1
    have ih := pn_any k q2
    by_cases h : x.1 = k
    · rw [List.any_cons, decide_eq_true h]
      unfold atKey
      rw [List.find?_cons_of_pos (by rw [← e1]; simpa using h)]; rfl
    · rw [List.any_cons, decide_eq_false h, Bool.false_or, ih]
      unfold atKey
      rw [List.find?_cons_of_neg (by rw [← e1]; simpa using h)]
theorem nr_any {K : PySem.W.Frag} (k : NestedKey) : ∀ {kvs : List (D × D)} {xs : List (NestedKey × Addr × V)}, NR K Fr ρ H kvs xs → (kvs.any fun p => decide (keyN p.1 = some k)) = (xs.any fun x => decide (x.1 = k))
  | [], xs, r => by
    have := r.length
    cases xs with
    | nil => rfl
    | cons _ _ => cases this
  | p :: kvs, xs, r => by
    obtain ⟨k', b, v, t, rfl, e, r1, r2, r⟩ := r.cons_inv
    rw [List.any_cons, List.any_cons, nr_any k r, e]
    congr 1
    by_cases h : k' = k
    · subst h; simp
    · rw [decide_eq_false h, decide_eq_false (by simpa using h)]
theorem PN.put {xs : List (NestedKey × Addr × V)} {ys : List (NestedKey × Addr × Value)} {k : NestedKey} {b : Addr} {v : V} {u : Value} (q : PN xs ys) (ru : RelV v u) : PN (putXN xs k b v) (storedH ys k b u) := by
  unfold putXN storedH
  rw [pn_any k q]
  split
  · revert q
    generalize hxs : xs = xs', hys : ys = ys'
    clear hxs hys
    intro q
    unfold PN at q ⊢
    induction q with
    | nil => exact .nil
    | @cons x y xs ys q1 q2 ih =>
      obtain ⟨e1, e2, e3⟩ := q1
      refine .cons ?_ ih
      unfold putAt
      dsimp only
      by_cases h : x.1 = k
      · rw [if_pos h, if_pos (by rw [← e1]; exact h)]; exact ⟨e1, e2, ru⟩
      · rw [if_neg h, if_neg (by rw [← e1]; exact h)]; exact ⟨e1, e2, e3⟩
  · revert q
    generalize hxs : xs = xs', hys : ys = ys'
    clear hxs hys
    intro q
    unfold PN at q ⊢
    induction q with
    | nil => exact .cons ⟨rfl, rfl, ru⟩ .nil
    | @cons x y xs ys q1 q2 ih => exact .cons q1 ih
theorem nr_map {K : PySem.W.Frag} {k : NestedKey} {d : D} {v : V} (rd : RD K Fr ρ H d v) : ∀ {kvs : List (D × D)} {xs : List (NestedKey × Addr × V)}, NR K Fr ρ H kvs xs →
    NR K Fr ρ H (kvs.map fun p => if keyN p.1 = some k then (p.1, d) else p) (xs.map fun x => if x.1 = k then (x.1, x.2.1, v) else x)
  | [], xs, r => by
    have := r.length
    cases xs with
    | nil => exact NR.nil
    | cons _ _ => cases this
  | p :: kvs, xs, r => by
    obtain ⟨k', b, w, t, rfl, e, r1, r2, r⟩ := r.cons_inv
    rw [List.map_cons, List.map_cons]
    have ih := nr_map (k := k) rd r
    by_cases h : k' = k
    · subst h
      rw [if_pos e]
      dsimp only
      rw [if_pos rfl]
      exact .cons e r1 rd ih
    · rw [if_neg (by rw [e]; simpa using h)]
      dsimp only
      rw [if_neg h]
      exact .cons e r1 r2 ih
theorem nr_snoc {K : PySem.W.Frag} {k : NestedKey} {c d : D} {b : Addr} {v : V} (e : keyN c = some k) (rc : RD K Fr ρ H c (.ref b)) (rd : RD K Fr ρ H d v) : ∀ {kvs : List (D × D)} {xs : List (NestedKey × Addr × V)}, NR K Fr ρ H kvs xs →
    NR K Fr ρ H (kvs ++ [(c, d)]) (xs ++ [(k, b, v)])
  | [], xs, r => by
    have := r.length
    cases xs with
    | nil => exact .cons e rc rd .nil
    | cons _ _ => cases this
  | p :: kvs, xs, r => by
    obtain ⟨k', b', w, t, rfl, e', r1, r2, r⟩ := r.cons_inv
    exact .cons e' r1 r2 (nr_snoc e rc rd r)
theorem NR.put {K : PySem.W.Frag} {kvs : List (D × D)} {xs : List (NestedKey × Addr × V)} {k : NestedKey} {c d : D} {b : Addr} {v : V} (r : NR K Fr ρ H kvs xs) (e : keyN c = some k) (rc : RD K Fr ρ H c (.ref b)) (rd : RD K Fr ρ H d v) :
    NR K Fr ρ H (nput kvs c k d) (putXN xs k b v) := by
  unfold nput putXN
  rw [nr_any k r]
  split
  · exact nr_map rd r
  · exact nr_snoc e rc rd r
/-! ### the dict itself -/
/-! ### {}, d.get(k, x), d[k] = v -/
end
section
variable {X : Cx} {W : EK X.K} {φ : Fn} {pos : Pos}
/-- the dict of a cell -/
theorem HR.dctN {K : PySem.W.Frag} {Fr ρ : List Addr} {H : Hp} {h : Hq} {n : Nat} {kvs : List (D × D)} {v : V} (r : HR K Fr ρ h H) (d : RD K Fr ρ H (.ref n) v) (e : h[n]? = some (.dctN kvs)) :
    ∃ a xs, v = .ref a ∧ ρ[n]? = some a ∧ H a = some (NDict a xs) ∧ NR K Fr ρ H kvs xs := by
  unfold RD at d
  obtain ⟨a, e1, e2⟩ := d
  obtain ⟨b, e3, xs, e4, q⟩ := r.at' n _ e
  rw [e2] at e3; cases e3
  exact ⟨a, xs, e1, e2, e4, q⟩
/-! ### list(d) -/
/-! ### {k: v} -/
/-! ### [y for x, y in d] -/
/-! ### dict(t).get(k, x), t a tuple of pairs of ints -/
end
end FF

/-! FFErrV: errors that are kept: try .. except C as e: return e; e.field later. -/
namespace FF
open PySem PySem.Spec PyProof.Rows L2
/-! ### the field of an error that is kept -/
def tXT (K : PySem.W.Frag) (n : Str) (te : TE) : TE := fun σ H Q => te σ H fun x H1 => ∃ (a : Addr) (oe : Obj) (C dd : Addr) (fs : List (Str × V)) (v : V), x = .ref a ∧ H1 a = some (.frz oe (.own 0)) ∧ Zc (.ref C) (some dd) oe ∧ (∃ vs, oe.data = .fields vs) ∧ XfC K C ∧ PySem.W.findIn K (.ref C) n = some none ∧ H1 dd = some (.xd fs) ∧ fs.lookup n = some v ∧ Q v H1
theorem pe_xfT {X : Cx} {e : Expr} {te : TE} {pos : Pos} {n : Str} (he : PE X e te) (hb : attributeBase e n X.env (eval e X.env) = eval e X.env := by rfl) : PE X (.Attribute e n pos) (tXT X.K n te) := by
  refine ⟨fun pins s σ H Q I h => ?_⟩
  refine attr_of hb (thn (he.run pins s σ H _ I h) fun u s1 hh => ?_)
  obtain ⟨x, H1, I1, rx, a, oe, C, dd, fs, v, ex, ha', hz, hf, T, hno, ea, l, q⟩ := hh
  subst ex
  obtain rfl : u = Value.ref a := rx
  obtain ⟨ha, _⟩ := (show ObjOk X.prog X.w H1 s1.heap a (.frz oe (.own 0)) from I1.hok a _ ha')
  obtain ⟨vs, hd⟩ := hf
  have hx : ObjOk X.prog X.w H1 s1.heap dd (.xd fs) := I1.hok dd _ ea
  obtain ⟨mA, hns, hr⟩ := hx
  obtain ⟨od, ho, hl⟩ := lookIn_ns hns
  obtain ⟨u, hu, ru⟩ := RelO.some_of (v := v) (o := mA n) (by rw [← l]; exact hr n)
  have J : PySem.W.InstAt s1.heap a oe C (some od) := ⟨ha, hz.1, by unfold PySem.W.notCls; rw [hd] <;> rfl, by rw [hz.2]; exact ho⟩
  exact HandSPX.exc_get I1.kIn J T.ga T.gg T.exC (PySem.W.findObj_own T.hdC hno rfl (by rw [hl, hu])) (handed_of ru) ⟨v, H1, I1.tok _, ru, q⟩
section
variable {X : Cx} {W : EK X.K} {φ : Fn} {pos : Pos}
theorem w_xfld {e : Expr} {f : Str} {ce : Ex} (he : SE X W e (ev φ ce)) (hb : attributeBase e f X.env (eval e X.env) = eval e X.env := by rfl) : SE X W (.Attribute e f pos) (ev φ (.bi (.xfld f) false (.cons ce .nil))) := by
  refine PE.imp (pe_xfT he hb) fun σ H Q ⟨Fr, ρ, s, h, r, sr, ok⟩ => ⟨Fr, ρ, s, h, r, sr, ?_⟩
  have ok : okR (Kont X.K Fr ρ H Q) (W.p Fr ρ H σ) ((evs φ (.cons ce .nil) s h).bind fun (ds, h) => lift (biD (.xfld f) false ds h)) := by
    conv at ok => unfold ev
    exact ok
  unfold evs at ok
  cases e1 : ev φ ce s h with
  | stuck => rw [e1] at ok; exact ok.elim
  | exc z h1 => rw [e1] at ok; exact ok
  | ok q =>
    rw [e1] at ok
    unfold evs at ok
    obtain ⟨d, hd⟩ := q
    have ok3 : okR (Kont X.K Fr ρ H Q) (W.p Fr ρ H σ) (lift (fldD f d hd)) := ok
    clear ok
    obtain ⟨p2, e2, k⟩ := okR_lift ok3
    clear ok3
    intro v ρ1 H1 x1 r1 d1
    unfold fldD at e2
    split at e2
    · next c y =>
      split at e2
      · rename_i ef
        cases e2
        subst ef
        have d1 : RD X.K Fr ρ1 H1 (.exn c [y]) v := d1
        unfold RD at d1
        obtain ⟨vs, k1, q⟩ := d1
        unfold RDs at q
        obtain ⟨u, t, rfl, du, q⟩ := q
        unfold RDs at q
        subst q
        obtain ⟨a, oe, C, dct, ev, ha, n1, n2, hz, hf, z, _⟩ := k1
        rcases z with ⟨z, _⟩ | ⟨dd, u2, z1, z2, z3, m1, m2, T, no⟩
        · cases z
        · cases z1
          subst z2
          exact ⟨a, oe, C, dd, _, u, ev, ha, hz, hf, T, no, z3, by simp, k u ρ1 H1 x1 r1 du⟩
      · cases e2
    · cases e2
end
/-! ### an error starts to be tracked -/
section
variable {X : Cx} {pins : List (Addr × Obj)} {σ : L2.St} {H : Hp} {s : Shared}
end
/-! ### try: body, except C as n: return n -/
end FF

/-! FFDict0: {} as data; repr([x, y]) where y may be {}; the least of pairs of an int and a tuple. -/
namespace FF
open PySem PySem.Spec PyProof.Rows L2
section
variable {X : Cx} {W : EK X.K} {φ : Fn} {pos : Pos}
theorem w_dct0 : SE X W (.Dict [] [] pos) (ev φ (.const (.dct []))) := by
  refine PE.imp pe_dnewK fun σ H Q ⟨Fr, ρ, s, h, r, sr, ok⟩ p hp => ?_
  conv at ok => unfold ev
  have ok : Kont X.K Fr ρ H Q (.dct [], h) := ok
  refine ok _ ρ _ (ext_new hp) (r.new hp) ?_
  unfold RD
  exact ⟨p, [], rfl, upd_same, (r.fresh hp).1, (r.fresh hp).2, by unfold RDs; rfl⟩
end
/-! ### a list display, away from the modules -/
/-! ### its repr -/
section
variable {X : Cx} {W : EK X.K} {φ : Fn} {pos : Pos}
end
/-! ### the least of pairs -/
/-- values that are such pairs -/
def PairsAt (K : PySem.W.Frag) (H : Hp) : List V → List (Int × List Int) → Prop
  | [], [] => True
  | v :: vs, n :: ns => (∃ t t2, v = V.ref t ∧ SqT K H t [V.int n.1, V.ref t2] ∧ SqT K H t2 (n.2.map V.int)) ∧ PairsAt K H vs ns
  | _, _ => False
theorem PairsAt.get {K : PySem.W.Frag} {H : Hp} : ∀ {vs : List V} {ns : List (Int × List Int)} {i : Nat} {v : V}, PairsAt K H vs ns → vs[i]? = some v → ∃ t n, v = V.ref t ∧ ns[i]? = some n
  | v :: vs, n :: ns, 0, w, h, e => by
    cases e
    obtain ⟨t, _, e1, _⟩ := h.1
    exact ⟨t, n, e1, rfl⟩
  | v :: vs, n :: ns, i + 1, w, h, e => by simpa using PairsAt.get h.2 (by simpa using e)
end FF

/-! FFObj: objects whose parts nobody reads: C() of an error class, an instance that its __init__ makes. -/
namespace FF
open PySem PySem.Spec PyProof.Rows L2
section
variable {X : Cx} {C : Addr} {bmB : List Value} {B newId initId : String}
/-- C(), an own error class without own __init__, as a value -/
theorem pe_exc0 {x : Str} {p pos : Pos} (F : ExcBaseFacts B newId initId bmB) (q : PySem.W.excIn X.K C bmB newId = true) (gC : X.mg x = some (.ref C)) (kC : PySem.W.keepIn X.K (.ref C) = true) (hg : Gl X x)
    (hdb : (x == ("__debug__" : Str)) = false) : PE X (.Call (.Name x p) [] [] pos) (fun _ H Q => ∀ a oe, H a = none → Zc (.ref C) none oe → (∃ fs, oe.data = .fields fs) → Q (.ref a) (upd H a (.frz oe (.own 0)))) := by
  refine ⟨fun pins s σ H Q I h => ?_⟩
  refine wpAny_Call_Name_kw (ld_glob I hg gC ?_ hdb)
  refine PySem.W.callWith_K0 I.kIn kC ?_
  show wpAny _ _ (call (.ref C) []) _ _ _
  obtain ⟨bm, N, nm, qn, bs, hdct, sn, sub, ab, col, dd, k0, k1, k2, k3, k5, mN, hC, hN, hni, T⟩ := exc_obj I.kIn q
  refine wpAny_call_exc_subT F T hC hN hni (fun h' a hm => ?_) (by show 0 ≤ sizeLine; omega)
  have hn : H a = none := I.hok.gone hm.new
  obtain ⟨t, ht, _, _⟩ := hm.there
  exact ⟨.ref a, upd H a (.frz _ (.own 0)), I.laidN hm.keeps hm.new hn ⟨ht, ⟨_, ht⟩⟩, rfl, h a _ hn ⟨rfl, rfl⟩ ⟨_, rfl⟩⟩
variable {W : EK X.K} {φ : Fn}
end
/-! ### an instance that its __init__ makes -/
section
variable {X : Cx} {k : Nat} {f C : Addr} {fd : FuncData} {ps : List Str} {sp : SpV} {x : Str} {p pos : Pos} {e : Expr} {es : List Expr} {t : TA}
end
/-! ### the __init__ of a desk: error = book_error(book); if error is not None: raise ..; self.books = (book,); self.edits = (); self.taken_back = () -/
/-- the promise of such an __init__ -/
def spI (K : PySem.W.Frag) (C : Addr) (g : List D → Hq → R (D × Hq)) : SpV := fun vs H Q => ∃ (y : Addr) (x : V), vs = [.ref y, x] ∧ ∃ (Fr ρ : List Addr) (h : Hq) (d : D) (dx : Addr) (H0 : Hp), H = upd (upd H0 dx (.own y)) y (.ins C dx []) ∧ H0 y = none ∧ H0 dx = none ∧ dx ≠ y ∧ HR K Fr ρ h H0 ∧ RD K Fr ρ H0 d x ∧
  okR (fun p => p.1 = .opq 1 ∧ ∀ ρ' H' fs, Ext ρ H0 ρ' H' → HR K Fr ρ' p.2 H' → y ∉ ρ' → y ∉ Fr → H' y = some (.ins C dx fs) → Q .non H') (fun _ _ => False) (g [d] h)
/-- the __init__ stands in the text -/
structure DeskIn (K : PySem.W.Frag) (mg : Str → Option Value) (sti : Stmt) (q x : Str) : Prop where
  ex : ∃ (C f : Addr) (oc : Value) (od : Option Addr) (kV doc pm : Value) (an : Option Addr) (cdv ct : Value) (osl : Array (Option Value)), K.lookup f = some ⟨oc, od, .func (PySem.W.fnOf "__init__" q (defArgs sti) (defBody sti) (defScope sti) .none kV doc pm an cdv ct), osl⟩ ∧ PySem.W.codeIn K cdv q = true ∧
    Mk K C f ∧ mg x = some (.ref C) ∧ InsK K C ∧ NoAttr K C "books" ∧ NoAttr K C "edits" ∧ NoAttr K C "taken_back"
/-- .. and keeps its promise -/
structure DeskO (P : Program) (w : World) (K : PySem.W.Frag) (mg : Str → Option Value) (base : Heap) (k : Nat) (g : List D → Hq → R (D × Hq)) (x : Str) : Prop where
  ex : ∃ (C f : Addr) (fd : FuncData) (ps : List Str), Fg P w K mg base k f fd ps (spI K C g) ∧ Mk K C f ∧ mg x = some (.ref C) ∧ InsK K C ∧ ∀ us : List Value, us.length = ps.length → bindArgs fd ⟨us, []⟩ = pure (ps.zip us)
  ans : ∀ d h p, g [d] h = .ok p → p.1 = .opq 1
/-- the class may be called -/
structure MakeO (P : Program) (w : World) (K : PySem.W.Frag) (mg : Str → Option Value) (base : Heap) (k : Nat) (gx : List D → Hq → R (D × Hq)) (x : Str) : Prop where
  ex : (∀ ds h, gx ds h = .stuck) ∨ ∃ j g, k = j + 1 ∧ DeskO P w K mg base j g x ∧ ∀ d h, gx [d] h = g [d] h
section
variable {P : Program} {w : World} {K : PySem.W.Frag} {mg : Str → Option Value} {base : Heap} {sti : Stmt} {q x : Str}
end
end FF

/-! FFTryG: try with any clauses: a class or one over it, a name or none, any suite; isinstance of an error that is kept. -/
namespace FF
open PySem PySem.Spec PyProof.Rows L2
/-- a class that may be raised -/
structure ErrN (K : PySem.W.Frag) (mg : Str → Option Value) (c : String) (C : Addr) : Prop where
  g : mg (Str.ofString c) = some (.ref C)
  n : NameK K c C
  f : fieldy c = true → XfC K C ∧ PySem.W.findIn K (.ref C) (fldOf c) = some none
def ExmOk (K : PySem.W.Frag) (mg : Str → Option Value) (cs : List String) (CF : Addr) (F : String) : Prop := ∀ c ∈ cs, ∀ C, mg (Str.ofString c) = some (.ref C) → PySem.W.exmOne K (.ref C) (.ref CF) = some (subX c F)
inductive HdsOk (X : Cx) (cs : List String) (φ : Fn) : List ExceptHandler → Hds → Prop
  | nil : HdsOk X cs φ [] .nil
  | named {x n : Str} {F : String} {CF : Addr} {i : Nat} {s0 : Stmt} {su : List Stmt} {np hp : Pos} {hds : List ExceptHandler} {b : Sms} {r : Hds} (hi : X.N[i]? = some n) (hln : X.env.kindOf n = some .local) (nm : Names X x (.ref CF))
      (ex : ExmOk X.K X.mg cs CF F)
      (go : ∀ (a : Addr) (pn : List (Addr × Obj)), SB (X.suite a pn) (EK.none X.K) (s0 :: su) (exB φ b)) (t : HdsOk X cs φ hds r) :
      HdsOk X cs φ (.ExceptHandler (some (.Name x np)) (some n) (s0 :: su) hp :: hds) (.cons F (some i) b r)
  | plain {x : Str} {F : String} {CF : Addr} {s0 : Stmt} {su : List Stmt} {np hp : Pos} {hds : List ExceptHandler} {b : Sms} {r : Hds} (nm : Names X x (.ref CF))
      (ex : ExmOk X.K X.mg cs CF F)
      (go : ∀ (a : Addr) (pn : List (Addr × Obj)), SB (X.suite a pn) (EK.none X.K) (s0 :: su) (exB φ b)) (t : HdsOk X cs φ hds r) :
      HdsOk X cs φ (.ExceptHandler (some (.Name x np)) none (s0 :: su) hp :: hds) (.cons F none b r)
section
variable {X : Cx} {pins : List (Addr × Obj)} {σ : L2.St} {H : Hp} {s : Shared}
end
theorem SR.none {K : PySem.W.Frag} {Fr ρ : List Addr} {H : Hp} {s : Env'} {σ : L2.St} (r : SR K Fr ρ H s σ) (i : Nat) : SR K Fr ρ H (s.set i none) (σ.set i none) := by
  refine ⟨by rw [List.length_set, List.length_set]; exact r.len, fun j d e => ?_⟩
  rw [List.getElem?_set] at e
  by_cases h : i = j
  · rw [if_pos h] at e
    split at e <;> cases e
  · rw [if_neg h] at e
    rw [List.getElem?_set, if_neg h]
    exact r.get j d e
/-! ### isinstance of an error that is kept -/
/-- the classes of errors against one -/
def IsEK (K : PySem.W.Frag) (F : String) (cv : Value) : Prop := ∀ c C, errNames.contains c = true → NameK K c C → ExcC K C ∧ PySem.W.kitOne K (.ref C) cv = some (subX c F)
def isEB (K : PySem.W.Frag) (F : String) (cv : Value) : Bool := K.all fun p => match p.2.data with
  | .cls cd => errNames.all fun c => if cd.name = Str.ofString c then excCB K p.1 && decide (PySem.W.kitOne K (.ref p.1) cv = some (subX c F)) else true
  | _ => true
theorem lookup_mem {α β : Type} [BEq α] [LawfulBEq α] {a : α} {b : β} : ∀ {l : List (α × β)}, l.lookup a = some b → (a, b) ∈ l
  | [], h => by cases h
  | (x, y) :: l, h => by
    rw [List.lookup_cons] at h
    split at h
    · rename_i e
      cases h
      rw [eq_of_beq e]
      exact List.mem_cons_self
    · exact List.mem_cons_of_mem _ (lookup_mem h)
theorem isEB_ok {K : PySem.W.Frag} {F : String} {cv : Value} (h : isEB K F cv = true) : IsEK K F cv := by
  intro c C hc ⟨o, cd, hl, hd, hn⟩
  have hm : (C, o) ∈ K := lookup_mem hl
  have q := List.all_eq_true.mp h _ hm
  dsimp only at q
  rw [hd] at q
  have q2 := List.all_eq_true.mp q c (by simpa using hc)
  rw [if_pos hn] at q2
  obtain ⟨q3, q4⟩ := Bool.and_eq_true_iff.mp q2
  exact ⟨(excCB_ok q3).1, of_decide_eq_true q4⟩
def rIsE2 (K : PySem.W.Frag) (F : String) (cv : Value) : List V → Hp → VK → Prop := fun xs H Q => ∃ (Fr ρ : List Addr) (c : String) (x cV : V) (vs : List V), xs = [x, cV] ∧ (∀ u, RelV cV u → u = cv) ∧ ErrAt K Fr ρ H c x vs ∧ errNames.contains c = true ∧ Q (.bl (subX c F)) H
theorem call_isE2 {X : Cx} {F : String} {cv : Value} (hk : IsEK X.K F cv) : CallR X (.builtin "isinstance") (rIsE2 X.K F cv) := by
  intro pins s σ H xs us Q I r h
  obtain ⟨Fr, ρ, c, x, cV, vs, rfl, hcv, ⟨a, oe, C, d, rfl, ha, _, _, hz, hf, dk, hn⟩, hc, q⟩ := h
  rcases r with _ | ⟨rx, _ | ⟨rt, rr⟩⟩
  cases rr
  cases rx
  cases hcv _ rt
  obtain ⟨hget, _⟩ := (show ObjOk X.prog X.w H s.heap a (.frz oe (.own 0)) from I.hok a _ ha)
  obtain ⟨fs, hv⟩ := hf
  obtain ⟨EC, e⟩ := hk c C hc hn
  obtain ⟨od, J⟩ : ∃ od, PySem.W.InstAt s.heap a oe C od := by
    obtain ⟨oc, odd, oda, osl⟩ := oe
    obtain ⟨h1, h2⟩ := hz
    dsimp only at h1 h2 hv
    subst h1 h2 hv
    rcases dk with ⟨_, rfl⟩ | ⟨dd, u, _, rfl, ed, _⟩
    · exact ⟨none, hget, rfl, rfl, trivial⟩
    · obtain ⟨mA, hns, _⟩ := (show ObjOk X.prog X.w H s.heap dd (.xd [(fldOf c, u)]) from I.hok dd _ ed)
      obtain ⟨od, ho, _⟩ := lookIn_ns hns
      exact ⟨some od, hget, rfl, rfl, ho⟩
  have hcl : (PySem.W.clsIn X.K C).isSome = true := by
    have z := EC.hd
    unfold PySem.W.hasDictIn at z
    cases e : PySem.W.clsIn X.K C with
    | none => rw [e] at z; first | cases z | simp at z
    | some _ => rfl
  exact PySem.W.kia_one (PySem.W.kitx_exc hcl EC.hg EC.hk EC.hs EC.ha EC.hn EC.ht EC.hm) I.kIn J e (fun z => nomatch z) fun tk => ⟨.bl _, H, I.kept (t' := tk) fun _ _ z => z, rfl, q⟩
section
variable {X : Cx} {W : EK X.K} {φ : Fn} {pos : Pos}
theorem isE_end {e : Expr} {ce : Ex} {F : String} {live : Bool} {te : TE} {σ : L2.St} {H : Hp} {Q : VK} {cv : Value} {cV : V} (hcV : ∀ u, RelV cV u → u = cv)
    (h : ∃ Fr ρ s h, HR X.K Fr ρ h H ∧ SR X.K Fr ρ H s σ ∧ okR (Kont X.K Fr ρ H Q) (W.p Fr ρ H σ) (ev φ (.bi (.isE F) live (.cons ce .nil)) s h)) :
    TEk X.K W (ev φ ce) σ H fun x H1 => rIsE2 X.K F cv [x, cV] H1 Q := by
  obtain ⟨Fr, ρ, s, h, r, sr, ok⟩ := h
  refine ⟨Fr, ρ, s, h, r, sr, ?_⟩
  have ok : okR (Kont X.K Fr ρ H Q) (W.p Fr ρ H σ) ((evs φ (.cons ce .nil) s h).bind fun (ds, h) => lift (biD (.isE F) live ds h)) := by
    conv at ok => unfold ev
    exact ok
  unfold evs at ok
  cases e1 : ev φ ce s h with
  | stuck => rw [e1] at ok; exact ok.elim
  | exc z h1 => rw [e1] at ok; exact ok
  | ok q =>
    rw [e1] at ok
    unfold evs at ok
    obtain ⟨d, hd⟩ := q
    have ok3 : okR (Kont X.K Fr ρ H Q) (W.p Fr ρ H σ) (lift (isED F d hd)) := ok
    clear ok
    obtain ⟨p2, e2, k⟩ := okR_lift ok3
    clear ok3
    intro v ρ1 H1 x1 r1 d1
    unfold isED at e2
    split at e2
    · next c fs =>
      split at e2
      · rename_i hc
        cases e2
        have d1 : RD X.K Fr ρ1 H1 (.exn c fs) v := d1
        unfold RD at d1
        obtain ⟨vs, k1, q⟩ := d1
        exact ⟨Fr, ρ1, c, v, cV, vs, rfl, hcV, k1, hc, k (.bl _) ρ1 H1 x1 r1 (rd_bl.mpr rfl)⟩
      · cases e2
    · cases e2
theorem w_isE {xf : Str} {e : Expr} {ce : Ex} {F : String} {CF : Addr} {live : Bool} {p2 p4 : Pos} (hk : IsEK X.K F (.ref CF)) (mF : X.mg xf = some (.ref CF)) (gI : Gl X "isinstance") (mI : X.mg "isinstance" = none) (gF : Gl X xf) (hdF : (xf == ("__debug__" : Str)) = false)
    (he : SE X W e (ev φ ce)) (hs : starEach [e, .Name xf p4] X.env = (false, eval e X.env) :: starEach [.Name xf p4] X.env) :
    SE X W (.Call (.Name "isinstance" p2) [e, .Name xf p4] [] pos) (ev φ (.bi (.isE F) live (.cons ce .nil))) :=
  PE.imp (pe_callB (call_isE2 hk) gI mI rfl (pa_cons he (pa_cons (pe_glob (v := .ref CF) gF mF rfl hdF) pa_nil) hs) (by decide) (by decide) hs) fun σ H Q t => isE_end (te := fun _ _ _ => True) (e := e) (fun u r => r) t
theorem w_isEV {e : Expr} {ce : Ex} {live : Bool} {p2 p4 : Pos} (hk : IsEK X.K "ValueError" (.type "ValueError")) (mF : X.mg "ValueError" = none) (gI : Gl X "isinstance") (mI : X.mg "isinstance" = none) (gF : Gl X "ValueError")
    (he : SE X W e (ev φ ce)) (hs : starEach [e, .Name "ValueError" p4] X.env = (false, eval e X.env) :: starEach [.Name "ValueError" p4] X.env) :
    SE X W (.Call (.Name "isinstance" p2) [e, .Name "ValueError" p4] [] pos) (ev φ (.bi (.isE "ValueError") live (.cons ce .nil))) :=
  PE.imp (pe_callB (call_isE2 hk) gI mI rfl (pa_cons he (pa_cons (pe_bltn (v := .ty "ValueError") gF mF PyProof.Rows.Boot.«ValueError» rfl) pa_nil) hs) (by decide) (by decide) hs) fun σ H Q t => isE_end (te := fun _ _ _ => True) (e := e) (fun u r => r) t
end
end FF

/-! FFRepr: repr of data with dicts within; {int: int}. -/
namespace FF
open PySem PySem.Spec PyProof.Rows L2
mutual
theorem Dp.nod {K : PySem.W.Frag} {H : Hp} : ∀ (d : PyData) (v : V), Dp K H v d → d.hasDict = false
  | .none, _, _ => rfl
  | .bool _, _, _ => rfl
  | .int _, _, _ => rfl
  | .str _, _, _ => rfl
  | .list ds, _, h => by
    cases h with
    | lst hs ha =>
      rw [PyData.hasDict]
      exact DpAll.nod ds _ ha
  | .tuple ds, _, h => by
    cases h with
    | tup hs ha =>
      rw [PyData.hasDict]
      exact DpAll.nod ds _ ha
  | .dict _, _, h => by cases h
theorem DpAll.nod {K : PySem.W.Frag} {H : Hp} : ∀ (ds : List PyData) (vs : List V), DpAll K H vs ds → PyData.hasDictAll ds = false
  | [], _, _ => rfl
  | d :: ds, _, h => by
    cases h with
    | cons h1 h2 =>
      rw [PyData.hasDictAll, Dp.nod d _ h1, DpAll.nod ds _ h2]
      rfl
end
mutual
/-- data with dicts within -/
inductive Rp (K : PySem.W.Frag) (H : Hp) : V → PyData → Prop
  | dat {v : V} {p : PyData} : Dp K H v p → Rp K H v p
  | lst {a : Addr} {xs : List V} {ds : List PyData} : SqL K H a xs → RpAll K H xs ds → Rp K H (.ref a) (.list ds)
  | tup {a : Addr} {xs : List V} {ds : List PyData} : SqT K H a xs → RpAll K H xs ds → Rp K H (.ref a) (.tuple ds)
  | dct {a : Addr} {kvs : List (Key × V)} {ps : List (PyData × PyData)} : H a = some (.dK kvs) → RpAll K H (kvs.map fun p => kV p.1) (ps.map (·.1)) → RpAll K H (kvs.map (·.2)) (ps.map (·.2)) → Rp K H (.ref a) (.dict ps)
inductive RpAll (K : PySem.W.Frag) (H : Hp) : List V → List PyData → Prop
  | nil : RpAll K H [] []
  | cons {v : V} {vs : List V} {d : PyData} {ds : List PyData} : Rp K H v d → RpAll K H vs ds → RpAll K H (v :: vs) (d :: ds)
end
theorem RpAll.split {K : PySem.W.Frag} {H : Hp} : ∀ (kvs : List (Key × V)) (qs : List PyData) (ps : List (PyData × PyData)), kvPairs qs = some ps → RpAll K H (flatK kvs) qs → RpAll K H (kvs.map fun p => kV p.1) (ps.map (·.1)) ∧ RpAll K H (kvs.map (·.2)) (ps.map (·.2))
  | [], qs, ps, e, r => by
    cases r
    unfold kvPairs at e; cases e
    exact ⟨.nil, .nil⟩
  | (k, v) :: kvs, qs, ps, e, r => by
    unfold flatK at r
    cases r with
    | cons r1 r =>
      cases r with
      | cons r2 r =>
        unfold kvPairs at e
        split at e
        · rename_i e1
          cases e
          obtain ⟨s1, s2⟩ := RpAll.split kvs _ _ e1 r
          exact ⟨.cons r1 s1, .cons r2 s2⟩
        · cases e
section
variable {K : PySem.W.Frag} {Fr ρ : List Addr} {H : Hp}
mutual
theorem RD.rp : ∀ (d : D) (p : PyData) (v : V), D.pyR d = some p → RD K Fr ρ H d v → Rp K H v p
  | .non, _, _, e, r => by unfold D.pyR at e; cases e; unfold RD at r; subst r; exact .dat .non
  | .bl _, _, _, e, r => by unfold D.pyR at e; cases e; unfold RD at r; subst r; exact .dat (.bl _)
  | .int _, _, _, e, r => by unfold D.pyR at e; cases e; unfold RD at r; subst r; exact .dat (.int _)
  | .str _, _, _, e, r => by unfold D.pyR at e; cases e; unfold RD at r; subst r; exact .dat (.str _)
  | .tup ds, _, _, e, r => by
    unfold D.pyR at e
    obtain ⟨ps, e1, rfl⟩ := Option.map_eq_some_iff.mp e
    obtain ⟨a, vs, rfl, s, q⟩ := r.sqT
    exact .tup s (RDs.rps ds ps vs e1 q)
  | .lst ds, _, _, e, r => by
    unfold D.pyR at e
    obtain ⟨ps, e1, rfl⟩ := Option.map_eq_some_iff.mp e
    obtain ⟨a, vs, rfl, s, q⟩ := r.sqL
    exact .lst (.of s) (RDs.rps ds ps vs e1 q)
  | .scr _, _, _, e, _ => by unfold D.pyR at e; cases e
  | .ktp ns, _, _, e, r => by
    unfold D.pyR at e; cases e
    exact .dat (RD.dp (.ktp ns) _ _ (by unfold D.py; rfl) r)
  | .kpp ps, _, _, e, r => by
    unfold D.pyR at e; cases e
    exact .dat (RD.dp (.kpp ps) _ _ (by unfold D.py; rfl) r)
  | .ref _, _, _, e, _ => by unfold D.pyR at e; cases e
  | .dct ds, _, _, e, r => by
    unfold RD at r
    obtain ⟨a, kvs, rfl, h, _, _, q⟩ := r
    unfold D.pyR at e
    split at e
    · rename_i qs e1
      obtain ⟨ps, e2, rfl⟩ := Option.map_eq_some_iff.mp e
      obtain ⟨s1, s2⟩ := RpAll.split kvs qs ps e2 (RDs.rps ds qs _ e1 q)
      exact .dct h s1 s2
    · cases e
  | .exn _ _, _, _, e, _ => by unfold D.pyR at e; cases e
  | .opq _, _, _, e, _ => by unfold D.pyR at e; cases e
theorem RDs.rps : ∀ (ds : List D) (ps : List PyData) (vs : List V), D.pyRs ds = some ps → RDs K Fr ρ H ds vs → RpAll K H vs ps
  | [], _, _, e, r => by unfold D.pyRs at e; cases e; unfold RDs at r; subst r; exact .nil
  | d :: ds, _, _, e, r => by
    unfold D.pyRs at e
    split at e
    · rename_i a b e1 e2
      cases e
      unfold RDs at r
      obtain ⟨v, t, rfl, k, q⟩ := r
      exact .cons (RD.rp d _ _ e1 k) (RDs.rps ds _ _ e2 q)
    · cases e
end
end
section
variable {X : Cx} {pins : List (Addr × Obj)} {σ : L2.St} {H : Hp} {s : Shared}
theorem keyIs_rel {k : Key} {v : Value} (h : keyIs k v = true) : RelV (kV k) v := by
  rcases keyIs_shape h with ⟨i, t, rfl, rfl⟩ | ⟨x, t, rfl, rfl⟩
  · exact ⟨t, rfl⟩
  · exact ⟨t, rfl⟩
theorem dK_two {P : Program} {w : World} : ∀ {kvs : List (Key × V)} {vs : List (Key × Value)} {es : List DictEntry}, KV kvs vs → PySem.Pairs (mixKind P w) es vs → Vals (kvs.map fun p => kV p.1) (es.map (·.key)) ∧ Vals (kvs.map (·.2)) (es.map (·.val))
  | [], _, _, rel, p => by
    cases rel
    cases p
    exact ⟨.nil, .nil⟩
  | (k, v) :: kvs, _, _, rel, p => by
    cases rel with
    | cons h1 h2 =>
      cases p with
      | cons p1 p2 p3 =>
        obtain ⟨r1, r2⟩ := h1
        dsimp only at r1 r2
        subst r1
        obtain ⟨s1, s2⟩ := dK_two h2 p3
        refine ⟨.cons (keyIs_rel p1) s1, .cons ?_ s2⟩
        show RelV v (DictEntry.val _)
        rw [p2]; exact r2
/-- a dict as it lies: the keys and the values that stand in it -/
theorem dK_reads (I : L2.Inv X pins σ H s) {a : Addr} {kvs : List (Key × V)} (h : H a = some (.dK kvs)) : ∃ (o : Obj) (n : Nat) (es : Array DictEntry), (a == sysModules) = false ∧ s.heap.get? a = some o ∧ o.cls = .type "dict" ∧ o.data = .dict es n ∧ Vals (kvs.map fun p => kV p.1) (es.toList.map (·.key)) ∧ Vals (kvs.map (·.2)) (es.toList.map (·.val)) := by
  obtain ⟨_, hm, vs, rel, od, es, ep, g1, g2, g3, g4⟩ := dk_of I.hok h
  obtain ⟨s1, s2⟩ := dK_two rel g4.2.1
  exact ⟨od, ep, es, hm, g1, g2.1, g3, s1, s2⟩
mutual
theorem Rp.reads (I : L2.Inv X pins σ H s) : ∀ {p : PyData} {v : V} {u : Value}, Rp X.K H v p → RelV v u → p.showable = true → p.shown.length ≤ sizeLine → (∃ as, Reads s.heap u p as) ∧ ∃ bs, ReadAtMost s.heap p.depth bs ∧ ReprK X.prog X.w bs s.heap p.depth u p.shown
  | p, v, u, .dat h, r, hs, hz => by
    obtain ⟨as, rd⟩ := Dp.reads I p v u h r
    exact ⟨⟨as, rd⟩, ReprK.of_reads rd hs (PyData.noDict_hsm (Dp.nod p v h)) hz⟩
  | .list ds, _, _, .lst hl ha, r, hs, hz => by
    cases r
    obtain ⟨its, rv, ⟨o, n, h1, h2, _, h3⟩, _⟩ := I.list hl
    have hz' : (listText (PyData.shownAll ds)).length ≤ sizeLine := by simpa only [PyData.shown] using hz
    obtain ⟨⟨as, h4⟩, bs, hb, hk⟩ := RpAll.reads I ha rv (by simpa [PyData.showable] using hs) (fun t ht => Nat.le_trans (listText_mem_le ht) hz')
    have rd : Reads s.heap (.ref _) (.list ds) _ := .list h1 h2 h3 h4
    have hna := not_mem_of_deeper rd (by simp only [PyData.depth]; omega) hb
    refine ⟨⟨_, rd⟩, _ :: bs, ReadAtMost.cons rd (by simp only [PyData.depth]; omega) hb, ?_⟩
    simp only [PyData.depth, PyData.shown]
    cases its with
    | nil =>
      have h4' : ReadsAll s.heap [] ds _ := h4
      cases h4'
      simp only [PyData.shownAll, listText_nil]
      exact ReprK.listEmpty h1 h2 h3
    | cons x l => exact ReprK.list h1 h2 h3 hna (by simpa using hk.length_eq) (fun i y e => hk.item i y (by simpa using e))
  | .tuple ds, _, _, .tup hl ha, r, hs, hz => by
    cases r
    obtain ⟨its, rv, ⟨o, h1, h2, n, h3⟩, _⟩ := I.tuple hl
    have hz' : (tupleText (PyData.shownAll ds)).length ≤ sizeLine := by simpa only [PyData.shown] using hz
    obtain ⟨⟨as, h4⟩, bs, hb, hk⟩ := RpAll.reads I ha rv (by simpa [PyData.showable] using hs) (fun t ht => Nat.le_trans (tupleText_mem_le ht) hz')
    have rd : Reads s.heap (.ref _) (.tuple ds) _ := .tuple h1 h2 h3 h4
    have hna := not_mem_of_deeper rd (by simp only [PyData.depth]; omega) hb
    refine ⟨⟨_, rd⟩, _ :: bs, ReadAtMost.cons rd (by simp only [PyData.depth]; omega) hb, ?_⟩
    simp only [PyData.depth, PyData.shown]
    exact ReprK.tuple h1 h2 h3 hna hk
  | .dict ps, _, _, .dct h ha hv, r, hs, hz => by
    cases r
    obtain ⟨o, n, es, hm, h1, h2, h3, r1, r2⟩ := dK_reads I h
    have hz' : (dictText (PyData.shownKv ps)).length ≤ sizeLine := by simpa only [PyData.shown] using hz
    obtain ⟨hs1, hs2⟩ := PyData.showableKv_split ps (by simpa [PyData.showable] using hs)
    obtain ⟨⟨as1, q1⟩, b1, hb1, k1⟩ := RpAll.reads I ha r1 hs1 (fun t ht => let ⟨p, hp, hl⟩ := PyData.shownKv_key_le ps t ht; Nat.le_trans hl (Nat.le_trans (dictText_mem_le hp) hz'))
    obtain ⟨⟨as2, q2⟩, b2, hb2, k2⟩ := RpAll.reads I hv r2 hs2 (fun t ht => let ⟨p, hp, hl⟩ := PyData.shownKv_val_le ps t ht; Nat.le_trans hl (Nat.le_trans (dictText_mem_le hp) hz'))
    have rd : Reads s.heap (.ref _) (.dict ps) _ := .dict h1 h2 h3 q1 q2
    have hb : ReadAtMost s.heap (PyData.depthKv ps) (b1 ++ b2) := (hb1.mono (PyData.depthAll_keys_le ps)).append (hb2.mono (PyData.depthAll_vals_le ps))
    have hna := not_mem_of_deeper rd (by simp only [PyData.depth]; omega) hb
    refine ⟨⟨_, rd⟩, _ :: (b1 ++ b2), ReadAtMost.cons rd (by simp only [PyData.depth]; omega) hb, ?_⟩
    simp only [PyData.depth, PyData.shown, PyData.shownKv_eq]
    exact ReprK.dict h1 h2 h3 hm hna (ReprEntriesK.of_two es.toList _ _
      (k1.more_le (fun b hb => List.mem_append_left _ hb) (PyData.depthAll_keys_le ps)) (k2.more_le (fun b hb => List.mem_append_right _ hb) (PyData.depthAll_vals_le ps)))
theorem RpAll.reads (I : L2.Inv X pins σ H s) : ∀ {ds : List PyData} {vs : List V} {us : List Value}, RpAll X.K H vs ds → Vals vs us → PyData.showableAll ds = true → (∀ t ∈ PyData.shownAll ds, t.length ≤ sizeLine) → (∃ as, ReadsAll s.heap us ds as) ∧ ∃ bs, ReadAtMost s.heap (PyData.depthAll ds) bs ∧ ReprAllK X.prog X.w bs s.heap (PyData.depthAll ds) us (PyData.shownAll ds)
  | [], _, _, .nil, r, _, _ => by
    cases r
    exact ⟨⟨_, .nil⟩, [], (fun _ h => nomatch h), by simp only [PyData.shownAll]; exact .nil⟩
  | d :: ds, _, _, .cons h1 h2, r, hs, hz => by
    cases r with
    | cons r1 r2 =>
      have hs' : d.showable = true ∧ PyData.showableAll ds = true := by simpa [PyData.showableAll] using hs
      obtain ⟨⟨as1, q1⟩, b1, hb1, k1⟩ := Rp.reads I h1 r1 hs'.1 (hz _ (by simp only [PyData.shownAll]; exact List.mem_cons_self ..))
      obtain ⟨⟨as2, q2⟩, b2, hb2, k2⟩ := RpAll.reads I h2 r2 hs'.2 (fun t ht => hz t (by simp only [PyData.shownAll]; exact List.mem_cons_of_mem _ ht))
      refine ⟨⟨_, .cons q1 q2⟩, b1 ++ b2, ?_, ?_⟩
      · intro b hm
        simp only [PyData.depthAll]
        rcases List.mem_append.mp hm with hm | hm
        · obtain ⟨d', as', r', hd'⟩ := hb1 b hm
          exact ⟨d', as', r', Nat.le_trans hd' (Nat.le_max_left _ _)⟩
        · obtain ⟨d', as', r', hd'⟩ := hb2 b hm
          exact ⟨d', as', r', Nat.le_trans hd' (Nat.le_max_right _ _)⟩
      · simp only [PyData.depthAll, PyData.shownAll]
        exact .cons ((k1.more fun b hb => List.mem_append_left _ hb).level_le (Nat.le_max_left _ _)) (k2.more_le (fun b hb => List.mem_append_right _ hb) (Nat.le_max_right _ _))
end
end
/-- repr of such data -/
theorem call_reprR {X : Cx} (hg : X.A.guards = some []) (hu : X.A.units + 128 < cLine) : CallR X (.builtin "repr") (fun xs H Q => ∃ x p, xs = [x] ∧ Rp X.K H x p ∧ showX p = true ∧ Q (.str p.shown) H) := by
  intro pins s σ H xs us Q I r h
  obtain ⟨x, p, rfl, hd, hs, q⟩ := h
  obtain ⟨u, rfl, r1⟩ := vals1 r
  have hs0 := hs
  unfold showX at hs
  simp only [Bool.and_eq_true, decide_eq_true_eq] at hs
  obtain ⟨⟨h1, h3⟩, h4⟩ := hs
  have hz := lineOk_le h4
  have dat : ∀ as, Reads s.heap u p as → p.hasDict = false → wpAny (model X.prog X.w) X.A (call (.builtin "repr") [u]) (EP X pins σ Q) X.xe s := fun as rd hn => by
    cases rd with
    | none => exact PySem.P.repr_of_none ⟨.str _, H, I.tok _, ⟨_, rfl⟩, by simpa only [PyData.shown] using q⟩
    | bool b => exact PySem.P.repr_of_bool ⟨.str _, H, I.tok _, ⟨_, rfl⟩, by simpa only [PyData.shown] using q⟩
    | int i t => exact PySem.P.repr_of_int (by simpa [PyData.showable] using h1) ⟨.str _, H, I.tok _, ⟨_, rfl⟩, by simpa only [PyData.shown] using q⟩
    | str y t => exact PySem.P.repr_of_str ⟨.str _, H, I.tok _, ⟨_, rfl⟩, by simpa only [PyData.shown] using q⟩ (by simpa only [PyData.shown] using hz)
    | list a1 a2 a3 a4 => exact repr_of_reads' (.list a1 a2 a3 a4) h1 (PyData.noDict_hsm hn) hg (by omega) (fun _ _ e => e) (fun h' t tk hk => ⟨.str _, H, I.kept hk, ⟨t, rfl⟩, q⟩) hz
    | tuple a1 a2 a3 a4 => exact repr_of_reads' (.tuple a1 a2 a3 a4) h1 (PyData.noDict_hsm hn) hg (by omega) (fun _ _ e => e) (fun h' t tk hk => ⟨.str _, H, I.kept hk, ⟨t, rfl⟩, q⟩) hz
    | dict => rw [PyData.hasDict] at hn; cases hn
  cases hd with
  | dat h =>
    obtain ⟨as, rd⟩ := Dp.reads I p x u h r1
    exact dat as rd (Dp.nod p x h)
  | @lst a xs ds hl ha =>
    cases r1
    obtain ⟨its, rv, ⟨o, n, g1, g2, _, g3⟩, _⟩ := I.list hl
    have hz' : (listText (PyData.shownAll ds)).length ≤ sizeLine := by simpa only [PyData.shown] using hz
    obtain ⟨⟨as, g4⟩, bs, hb, hk⟩ := RpAll.reads I ha rv (by simpa [PyData.showable] using h1) (fun t ht => Nat.le_trans (listText_mem_le ht) hz')
    have rd : Reads s.heap (.ref a) (.list ds) _ := .list g1 g2 g3 g4
    have hna := not_mem_of_deeper rd (by simp only [PyData.depth]; omega) hb
    simp only [PyData.depth] at h3
    simp only [PyData.shown] at q
    have S : call (.builtin "repr") [Value.ref a] = call (.builtin "repr") [Value.ref a] := rfl
    cases its with
    | nil =>
      have g4' : ReadsAll s.heap [] ds _ := g4
      cases g4'
      exact dat _ rd (by rw [PyData.hasDict]; rfl)
    | cons x l =>
      refine call_repr_slot (by omega) ⟨o, g1, g2⟩ F.slot_list_repr.toG ?_
      refine call_list_reprK g1 g2 g3 hna (by simpa using hk.length_eq) (fun i y e => hk.item i y (by simpa using e)) hg (fun b _ => Clear.nil b) (by show X.A.units + 1 + _ < cLine; omega) (fun _ _ e => e) (fun h' t tk hk => ?_) hz'
      exact ⟨_, _, rfl, ⟨.str _, H, I.kept hk, ⟨t, rfl⟩, q⟩⟩
  | @tup a xs ds hl ha =>
    cases r1
    obtain ⟨its, rv, ⟨o, g1, g2, n, g3⟩, _⟩ := I.tuple hl
    have hz' : (tupleText (PyData.shownAll ds)).length ≤ sizeLine := by simpa only [PyData.shown] using hz
    obtain ⟨⟨as, g4⟩, bs, hb, hk⟩ := RpAll.reads I ha rv (by simpa [PyData.showable] using h1) (fun t ht => Nat.le_trans (tupleText_mem_le ht) hz')
    have rd : Reads s.heap (.ref a) (.tuple ds) _ := .tuple g1 g2 g3 g4
    have hna := not_mem_of_deeper rd (by simp only [PyData.depth]; omega) hb
    simp only [PyData.depth] at h3
    simp only [PyData.shown] at q
    refine call_repr_slot (by omega) ⟨o, g1, g2⟩ F.slot_tuple_repr ?_
    refine call_tuple_reprK g1 g2 g3 hna hk hg (fun b _ => Clear.nil b) (by show X.A.units + 1 + _ < cLine; omega) (fun _ _ e => e) (fun h' t tk hk => ?_) hz'
    exact ⟨_, _, rfl, ⟨.str _, H, I.kept hk, ⟨t, rfl⟩, q⟩⟩
  | @dct a kvs ps h ha hv =>
    cases r1
    obtain ⟨o, n, es, hm, g1, g2, g3, s1, s2⟩ := dK_reads I h
    have hz' : (dictText (PyData.shownKv ps)).length ≤ sizeLine := by simpa only [PyData.shown] using hz
    obtain ⟨hs1, hs2⟩ := PyData.showableKv_split ps (by simpa [PyData.showable] using h1)
    obtain ⟨⟨as1, q1⟩, b1, hb1, k1⟩ := RpAll.reads I ha s1 hs1 (fun t ht => let ⟨p, hp, hl⟩ := PyData.shownKv_key_le ps t ht; Nat.le_trans hl (Nat.le_trans (dictText_mem_le hp) hz'))
    obtain ⟨⟨as2, q2⟩, b2, hb2, k2⟩ := RpAll.reads I hv s2 hs2 (fun t ht => let ⟨p, hp, hl⟩ := PyData.shownKv_val_le ps t ht; Nat.le_trans hl (Nat.le_trans (dictText_mem_le hp) hz'))
    have rd : Reads s.heap (.ref _) (.dict ps) _ := .dict g1 g2 g3 q1 q2
    have hb : ReadAtMost s.heap (PyData.depthKv ps) (b1 ++ b2) := (hb1.mono (PyData.depthAll_keys_le ps)).append (hb2.mono (PyData.depthAll_vals_le ps))
    have hna := not_mem_of_deeper rd (by simp only [PyData.depth]; omega) hb
    simp only [PyData.depth] at h3
    simp only [PyData.shown, PyData.shownKv_eq] at q hz
    refine call_repr_slot (by omega) ⟨o, g1, g2⟩ F.slot_dict_repr ?_
    refine call_dict_reprK g1 g2 g3 hm hna (ReprEntriesK.of_two es.toList _ _ (k1.more_le (fun b hb => List.mem_append_left _ hb) (PyData.depthAll_keys_le ps)) (k2.more_le (fun b hb => List.mem_append_right _ hb) (PyData.depthAll_vals_le ps))) hg (fun b _ => Clear.nil b) (by show X.A.units + 1 + _ < cLine; omega) (fun _ _ e => e) (fun h' t tk hk => ?_) hz
    exact ⟨_, _, rfl, ⟨.str _, H, I.kept hk, ⟨t, rfl⟩, q⟩⟩
theorem cb_reprR {X : Cx} (hg : X.A.guards = some []) (hu : X.A.units + 128 < cLine) : CallR X (.builtin "repr") (rDs X.K (un1 reprVD)) := by
  refine cb1 (call_reprR hg hu) fun x H Q Fr ρ h d p r d1 q k => ?_
  unfold reprVD at q
  split at q
  · rename_i p hp
    split at q
    · rename_i hs
      cases q
      exact ⟨x, p, rfl, RD.rp _ _ _ hp d1, hs, k.same r (rd_str.mpr rfl)⟩
    · cases q
  · cases q
section
variable {X : Cx} {φ : Fn} {pos : Pos}
end
end FF

/-! FFMkE: errors that are made as values: C(), C(x). -/
namespace FF
open PySem PySem.Spec PyProof.Rows L2
namespace KwE
open HandSPX
variable {M : Model} {prog : Program} {w : World} {A : Around} {E : Value → Shared → Prop} {R : Result → Shared → Prop} {h : Heap} {g : Array GenState} {d : Drawn} {t : Nat} {os : OsState}
variable {nm q : Str} {C N : Addr} {bs bm bmB : List Value} {hdct : Bool} {sn : List Str} {sub : List Value} {ab : Bool} {col : Option Bool} {dd : Option Addr} {k0 k1 k2 k3 k5 : Option Value} {B newId initId : String}
theorem check_new (F : ExcBaseFacts B newId initId bmB) (hT : ∀ X : String, bm.contains (.type X) = bmB.contains (.type X)) {kw : List (Str × Value)} {Q : Unit → Shared → Prop}
    (hC : h.get? C = some (excClassObj nm q C N bs bm hdct sn sub ab col dd k0 k1 k2 k3 k5 newId)) (hq : Q () ⟨h, g, d, t, os⟩) : wpAny M A (checkBuiltinCall newId ⟨[.ref C], kw⟩) Q E ⟨h, g, d, t, os⟩ := by
  have hcB : (Value.ref C :: bm).contains (.type B) = true := by rw [List.contains_cons, hT, F.hasB, Bool.or_true]
  have hstar := F.noStar
  simp only [checkBuiltinCall, F.newKind, F.newSplit, F.newRow]
  repeat (first | refine wpAny_loadPart_at hC ?_ | (refine wpAny_isSubtype_exc hC ?_; rw [hcB]) | refine wpAny_staticBase_exc hC ?_ | refine wpAny_madeBy_exc hC ?_ | simp only [bne_self_eq_false, Bool.false_eq_true, if_false] | wp_step)
  exact hq
theorem new_kw (F : ExcBaseFacts B newId initId bmB) (hT : ∀ X : String, bm.contains (.type X) = bmB.contains (.type X)) {kw : List (Str × Value)}
    (cC : h.get? C = some (excClassObj nm q C N bs bm hdct sn sub ab col dd k0 k1 k2 k3 k5 newId))
    (fin : R (.ok (.ret (.ref (h.objs.size + 1)))) ⟨(h.push (PySem.W.kdv_tup [])).push (excO C h.objs.size), g, d, t, os⟩) :
    codeAny (model prog w) A (.builtin newId ⟨[.ref C], kw⟩) R ⟨h, g, d, t, os⟩ := by
  have ends := F.ends
  have zB : (Value.ref C :: bm).contains (.type B) = true := by rw [List.contains_cons, hT, F.hasB, Bool.or_true]
  have zA : (Value.ref C :: bm).contains (.type "AttributeError") = false := by rw [List.contains_cons, hT, F.noAttr]; rfl
  have zN : (Value.ref C :: bm).contains (.type "NameError") = false := by rw [List.contains_cons, hT, F.noName]; rfl
  refine codeAny_builtinAt F.entry ?_
  unfold Builtin.«BaseException.__new__»
  refine PySem.wpAt_bind ?_
  show PySem.wpAt _ _ _ (stack >>= _) _ _ _
  refine PySem.wpAt_bind (PySem.wpAt_stack fun p below => PySem.wpAt_of_wpAny ?_)
  wp_walk
  refine PySem.wpAt_of_wpAny ?_
  rw [F.owner]
  repeat (first | with_reducible refine wpAny_madeHere_exc F.canon cC ?_ | with_reducible refine wpAny_loadPart_at cC ?_ | (with_reducible refine wpAny_isSubtype_exc cC ?_; first | rw [zB] | rw [zA] | rw [zN]) | wp_step)
  show R _ _
  rw [Heap.size_push]
  exact fin
theorem type_kw (F : ExcBaseFacts B newId initId bmB) (hT : ∀ X : String, bm.contains (.type X) = bmB.contains (.type X)) {kw : List (Str × Value)} {fI : Addr} {Q : Fin → Shared → Prop}
    (cC : h.get? C = some (excClassObj nm q C N bs bm hdct sn sub ab col dd k0 k1 k2 k3 k5 newId))
    (li : PySem.W.Looks (model prog w) h (typeLookup (.ref C) "__init__") (some (.ref fI))) (bd : ∀ self, PySem.W.Looks (model prog w) h (bindSpecial (.ref fI) self) (.ref fI, [self]))
    (go : codeAny (model prog w) A (.call (.ref fI) ⟨[.ref (h.objs.size + 1)], kw⟩)
      (fun r s' => match r with | .ok (.ret v) => v = .none ∧ Q (.done (.ret (.ref (h.objs.size + 1)))) s' | .ok _ => False | .error e => E e s')
      ⟨(h.push (PySem.W.kdv_tup [])).push (excO C h.objs.size), g, d, t, os⟩) :
    wpAny (model prog w) A (Builtin.«type.__call__» ⟨[.ref C], kw⟩) Q E ⟨h, g, d, t, os⟩ := by
  repeat (first | with_reducible refine wpAny_loadPart_at cC ?_ | with_reducible refine wpAny_madeBy_exc cC ?_ | wp_step)
  refine codeAny_call_builtin_code (Code.quiet_builtin _ F.quiet) (check_new F hT cC ?_)
  refine new_kw F hT cC ?_
  show wpAny _ _ _ _ _ _
  have up : ∀ b o, h.get? b = some o → ((h.push (PySem.W.kdv_tup [])).push (excO C h.objs.size)).get? b = some o := fun b o e => Heap.get?_push_of_some _ (Heap.get?_push_of_some _ e)
  have cC₁ := up _ _ cC
  have got : ((h.push (PySem.W.kdv_tup [])).push (excO C h.objs.size)).get? (h.objs.size + 1) = some (excO C h.objs.size) := by heap_get
  have zC : (Value.ref C :: bm).contains (.ref C) = true := by simp
  have i1 := li.keeps up
  have b1 := (bd (.ref (h.objs.size + 1))).keeps up
  unfold isInstance
  repeat (first | with_reducible refine wpAny_loadPart_at got ?_ | (with_reducible refine wpAny_isSubtype_exc cC₁ ?_; rw [zC]) | wp_step)
  show wpAny _ _ (typeLookup (.ref C) _) _ _ _
  refine i1.at ?_
  refine wpAny_holding (wpAny_bind (b1.at ?_))
  refine wpAny_bind (wpAny_call (codeAny_mono go fun r s' z => ?_))
  rcases r with e | (v | _ | _ | _) <;> first | exact z | exact z.elim | skip
  obtain ⟨rfl, z⟩ := z
  first
    | exact wpAny_pure (wpAny_pure z)
    | (wp_walk; exact z)
theorem call_kw (F : ExcBaseFacts B newId initId bmB) (hT : ∀ X : String, bm.contains (.type X) = bmB.contains (.type X)) {kw : List (Str × Value)} {fI : Addr}
    (cC : h.get? C = some (excClassObj nm q C N bs bm hdct sn sub ab col dd k0 k1 k2 k3 k5 newId))
    (li : PySem.W.Looks (model prog w) h (typeLookup (.ref C) "__init__") (some (.ref fI))) (bd : ∀ self, PySem.W.Looks (model prog w) h (bindSpecial (.ref fI) self) (.ref fI, [self]))
    (go : codeAny (model prog w) (A.under (.builtin "type.__call__" ⟨[.ref C], kw⟩)) (.call (.ref fI) ⟨[.ref (h.objs.size + 1)], kw⟩) (PySem.W.InitBack (h.objs.size + 1) R)
      ⟨(h.push (PySem.W.kdv_tup [])).push (excO C h.objs.size), g, d, t, os⟩) :
    codeAny (model prog w) A (.call (.ref C) ⟨[], kw⟩) R ⟨h, g, d, t, os⟩ := by
  have f1 := tc_lookup
  have f2 := tc_bind (.ref C)
  have hTy : (⟨h, g, d, t, os⟩ : Shared).TypeIs (.ref C) "type" := ⟨_, cC, rfl⟩
  refine codeAny_of_tree ?_
  show wpAny _ _ (callAny (.ref C) _) _ _ _
  repeat (any_goals (first | assumption | with_reducible refine wpAny_loadPart_at cC ?_ | wp_step))
  refine ⟨rfl, ?_⟩
  refine codeAny_call_builtin_at (Code.quiet_builtin _ (by decide +kernel)) entry_typeCall (wpAny_check_type_call_sub cC (type_kw F hT cC li bd ?_))
  refine codeAny_mono go fun r s' z => ?_
  rcases r with e | (v | _ | _ | _) <;> exact z
end KwE
section
variable {X : Cx}
/-- what stands behind C(x): the error with its dict -/
def tMkV (f : Str) (C : Addr) (v : V) (Q : VK) (H1 : Hp) : Prop := ∀ (a d : Addr) (oe : Obj), H1 d = none → H1 a = none → d ≠ a → Zc (.ref C) (some d) oe → (∃ fs, oe.data = .fields fs) → Q (.ref a) (upd (upd H1 d (.xd [(f, v)])) a (.frz oe (.own 0)))
theorem pe_fldV {C : Addr} {f x : Str} {k : Nat} {e : Expr} {ta : TA} {p pos : Pos} (T : FldC X.prog X.K X.mg C f) (hr : Room k X.A) (hg : Gl X x) (gC : X.mg x = some (.ref C)) (ha : PA X [e] ta)
    (hdb : (x == ("__debug__" : Str)) = false) (he : starEach [e] X.env = (false, eval e X.env) :: starEach [] X.env) :
    PE X (.Call (.Name x p) [e] [] pos) (fun σ H Q => ta σ H fun vs H1 => ∃ v, vs = [v] ∧ tMkV f C v Q H1) := by
  refine ⟨fun pins s σ H Q I h => ?_⟩
  obtain ⟨st, q, fI, cc, cda, dV, kV, doc, pm, ct, oc, ccl, cl, an, od, cdd, cld, osl, ccs, csl, vs0, file, tf, S, iC, tI, lk, ci, lc, hvs, hfile, lcell, bind, _⟩ := T.init
  obtain ⟨nm, q0, N, bs, bm, sn, sub, ab, col, dd, k0, k1, k2, k3, k5, hC, hbm⟩ := T.oex.cls
  refine wpAny_Call_Name_kw (ld_glob I hg gC ?_ hdb)
  refine PySem.W.callWith_K (h₀ := X.base) I.ok.mod.kin T.oex.kC (thn (ha.run pos pins s σ H _ I h) fun us s1 hh => ?_) he rfl
  obtain ⟨vs, H1, I1, rv, v, ev, q1⟩ := hh
  subst ev
  refine ⟨I1.kIn, ?_⟩
  cases rv with
  | cons ru rn =>
    rename_i u us'
    cases rn
    show wpAny _ _ (call (.ref C) [u]) _ _ _
    obtain ⟨hp, gs, dr, tk, os⟩ := s1
    have sz : hp.objs.size ≤ hp.objs.size + 1 := Nat.le_succ _
    have n1 : H1 (hp.objs.size + 1) = none := I1.hok.fresh sz
    have up : ∀ b o, hp.get? b = some o → ((hp.push (PySem.W.kdv_tup [u])).push (HandSPX.excO C hp.objs.size)).get? b = some o := fun b o e => Heap.get?_push_of_some _ (Heap.get?_push_of_some _ e)
    have got : ((hp.push (PySem.W.kdv_tup [u])).push (HandSPX.excO C hp.objs.size)).get? (hp.objs.size + 1) = some (HandSPX.excO C hp.objs.size) := by heap_get
    have I2 : L2.Inv X pins σ (upd H1 (hp.objs.size + 1) (exo (hp.objs.size + 1) C none)) ⟨(hp.push (PySem.W.kdv_tup [u])).push (HandSPX.excO C hp.objs.size), gs, dr, tk, os⟩ :=
      I1.laid (t' := tk) (a := hp.objs.size + 1) (o := exo (hp.objs.size + 1) C none) (h' := (hp.push (PySem.W.kdv_tup [u])).push (HandSPX.excO C hp.objs.size)) up sz (exo_ok got)
    obtain ⟨mb, hb1, hb2⟩ := I.mod.blt
    have one : ([u] : List Value).length ≤ sizeLine := by
      show 1 ≤ sizeLine
      rw [sizeLine_eq]
      omega
    refine wpAny_call (HandSPX.call_own F.excBase_ValueError (fun Y => HandSPX.refsVE_contains Y bm hbm) (I1.kIn _ _ hC) (PySem.W.looks_findIn I1.kIn iC) (fun self => PySem.W.bind_fn I1.kIn self tI) one ?_)
    refine init_runs T.oex S T.ve T.slf T.sup T.thd T.mgS T.no T.top lk ci lc hvs hfile lcell (bind _ _) I2.kIn (I2.mod.glob.keeps I2.bk) (hb1.keeps I2.bk) ((hb2 "super" (by decide)).trans ?bo) (I2.mod.nolimit.keeps I2.bk) (by rw [make_depth]; have := hr.dp; omega) got (fun o e => ?nk) ?fin
    case bo => exact PyProof.Rows.Boot.super
    case nk =>
      have z := Heap.lt_size (I1.kIn _ _ e)
      exact absurd z (by show ¬ hp.objs.size + 1 < hp.objs.size; omega)
    case fin =>
      intro g1 tk1 d t1 kb dn dne ga gd
      obtain ⟨un, hok⟩ := fld_un I2 upd_same kb dn dne ga gd ru
      have hd1 : H1 d = none := by
        have z := I2.hok.gone dn
        rw [upd_ne dne] at z
        exact z
      have eq : upd (del (upd (upd (upd H1 (hp.objs.size + 1) (exo (hp.objs.size + 1) C none)) d (exd d [(f, v)])) (hp.objs.size + 1) (exo (hp.objs.size + 1) C (some d))) (hp.objs.size + 1)) d (.xd [(f, v)]) = upd H1 d (.xd [(f, v)]) := by
        funext b
        by_cases hb : b = d
        · rw [hb, upd_same, upd_same]
        · rw [upd_ne hb, upd_ne hb]
          by_cases ha2 : b = hp.objs.size + 1
          · rw [ha2, del_same, n1]
          · rw [del_ne ha2, upd_ne ha2, upd_ne hb, upd_ne ha2]
      obtain ⟨t0, G, J, kG, ge, hoe, na⟩ := mk_end0 (d2 := dr) (t2 := tk1) I1 sz up un hok rfl I2.bare upd_same (by rw [upd_ne dne, upd_same]) hd1
      rw [eq] at J na
      exact ⟨rfl, ⟨.ref (hp.objs.size + 1), _, J.laidN (t' := tk1) (o := .frz ({ cls := .ref C, dict := some d, data := .fields #[.ref t0, .none, .none, .none, .bool false, .none] } : Obj) (.own 0)) kG ge na ⟨hoe, ⟨_, hoe⟩⟩, rfl, q1 _ d _ hd1 n1 dne ⟨rfl, rfl⟩ ⟨_, rfl⟩⟩⟩
/-- C(f=x) -/
theorem pe_fldVK {C : Addr} {f x : Str} {k : Nat} {kws : List Keyword} {ta : TA} {p pos : Pos} (T : FldC X.prog X.K X.mg C f) (hr : Room k X.A) (hg : Gl X x) (gC : X.mg x = some (.ref C)) (ha : PK X kws ta)
    (hdb : (x == ("__debug__" : Str)) = false) (hall : (backToKw pos (keywordEach kws X.env)).all (·.1.isSome) = true) (hks : (backToKw pos (keywordEach kws X.env)).filterMap (·.1) = [f])
    (hpl : ((backTo pos (starEach [] X.env)).any (·.1) || (backToKw pos (keywordEach kws X.env)).any (·.1.isNone)) = false) :
    PE X (.Call (.Name x p) [] kws pos) (fun σ H Q => ta σ H fun vs H1 => ∃ v, vs = [v] ∧ tMkV f C v Q H1) := by
  refine ⟨fun pins s σ H Q I h => ?_⟩
  obtain ⟨st, q, fI, cc, cda, dV, kV, doc, pm, ct, oc, ccl, cl, an, od, cdd, cld, osl, ccs, csl, vs0, file, tf, S, iC, tI, lk, ci, lc, hvs, hfile, lcell, _, bind⟩ := T.init
  obtain ⟨nm, q0, N, bs, bm, sn, sub, ab, col, dd, k0, k1, k2, k3, k5, hC, hbm⟩ := T.oex.cls
  refine wpAny_Call_Name_kw (ld_glob I hg gC ?_ hdb)
  refine PySem.W.callWith_KW0 (h₀ := X.base) I.ok.mod.kin T.oex.kC hall (thn (ha.run pos pins s σ H _ I h) fun us s1 hh => ?_) hpl
  obtain ⟨vs, H1, I1, rv, v, ev, q1⟩ := hh
  subst ev
  refine ⟨I1.kIn, ?_⟩
  cases rv with
  | cons ru rn =>
    rename_i u us'
    cases rn
    rw [hks]
    show wpAny _ _ (call (.ref C) [] [(f, u)]) _ _ _
    obtain ⟨hp, gs, dr, tk, os⟩ := s1
    have sz : hp.objs.size ≤ hp.objs.size + 1 := Nat.le_succ _
    have n1 : H1 (hp.objs.size + 1) = none := I1.hok.fresh sz
    have up : ∀ b o, hp.get? b = some o → ((hp.push (PySem.W.kdv_tup [])).push (HandSPX.excO C hp.objs.size)).get? b = some o := fun b o e => Heap.get?_push_of_some _ (Heap.get?_push_of_some _ e)
    have got : ((hp.push (PySem.W.kdv_tup [])).push (HandSPX.excO C hp.objs.size)).get? (hp.objs.size + 1) = some (HandSPX.excO C hp.objs.size) := by heap_get
    have I2 : L2.Inv X pins σ (upd H1 (hp.objs.size + 1) (exo (hp.objs.size + 1) C none)) ⟨(hp.push (PySem.W.kdv_tup [])).push (HandSPX.excO C hp.objs.size), gs, dr, tk, os⟩ :=
      I1.laid (t' := tk) (a := hp.objs.size + 1) (o := exo (hp.objs.size + 1) C none) (h' := (hp.push (PySem.W.kdv_tup [])).push (HandSPX.excO C hp.objs.size)) up sz (exo_ok got)
    obtain ⟨mb, hb1, hb2⟩ := I.mod.blt
    refine wpAny_call (KwE.call_kw F.excBase_ValueError (fun Y => HandSPX.refsVE_contains Y bm hbm) (I1.kIn _ _ hC) (PySem.W.looks_findIn I1.kIn iC) (fun self => PySem.W.bind_fn I1.kIn self tI) ?_)
    refine init_runs T.oex S T.ve T.slf T.sup T.thd T.mgS T.no T.top lk ci lc hvs hfile lcell (bind _ _) I2.kIn (I2.mod.glob.keeps I2.bk) (hb1.keeps I2.bk) ((hb2 "super" (by decide)).trans ?bo) (I2.mod.nolimit.keeps I2.bk) (by rw [make_depth]; have := hr.dp; omega) got (fun o e => ?nk) ?fin
    case bo => exact PyProof.Rows.Boot.super
    case nk =>
      have z := Heap.lt_size (I1.kIn _ _ e)
      exact absurd z (by show ¬ hp.objs.size + 1 < hp.objs.size; omega)
    case fin =>
      intro g1 tk1 d t1 kb dn dne ga gd
      obtain ⟨un, hok⟩ := fld_un I2 upd_same kb dn dne ga gd ru
      have hd1 : H1 d = none := by
        have z := I2.hok.gone dn
        rw [upd_ne dne] at z
        exact z
      have eq : upd (del (upd (upd (upd H1 (hp.objs.size + 1) (exo (hp.objs.size + 1) C none)) d (exd d [(f, v)])) (hp.objs.size + 1) (exo (hp.objs.size + 1) C (some d))) (hp.objs.size + 1)) d (.xd [(f, v)]) = upd H1 d (.xd [(f, v)]) := by
        funext b
        by_cases hb : b = d
        · rw [hb, upd_same, upd_same]
        · rw [upd_ne hb, upd_ne hb]
          by_cases ha2 : b = hp.objs.size + 1
          · rw [ha2, del_same, n1]
          · rw [del_ne ha2, upd_ne ha2, upd_ne hb, upd_ne ha2]
      obtain ⟨t0, G, J, kG, ge, hoe, na⟩ := mk_end0 (d2 := dr) (t2 := tk1) I1 sz up un hok rfl I2.bare upd_same (by rw [upd_ne dne, upd_same]) hd1
      rw [eq] at J na
      exact ⟨rfl, ⟨.ref (hp.objs.size + 1), _, J.laidN (t' := tk1) (o := .frz ({ cls := .ref C, dict := some d, data := .fields #[.ref t0, .none, .none, .none, .bool false, .none] } : Obj) (.own 0)) kG ge na ⟨hoe, ⟨_, hoe⟩⟩, rfl, q1 _ d _ hd1 n1 dne ⟨rfl, rfl⟩ ⟨_, rfl⟩⟩⟩
variable {W : EK X.K} {φ : Fn} {C : Addr} {c : String} {k : Nat}
theorem w_mkE0 {x : Str} {p pos : Pos} (E : Err0 X.K X.mg c C) (hx : x = Str.ofString c) (hg : Gl X x) (hdb : (x == ("__debug__" : Str)) = false) :
    SE X W (.Call (.Name x p) [] [] pos) (ev φ (.bi (.mkE c) false .nil)) := by
  refine PE.imp (pe_exc0 F.excBase_ValueError E.q (hx ▸ E.g) E.k hg hdb) fun σ H Q ⟨Fr, ρ, s, h, r, sr, ok⟩ a oe na hz hf => ?_
  have ok : okR (Kont X.K Fr ρ H Q) (W.p Fr ρ H σ) ((evs φ .nil s h).bind fun (ds, h) => lift (biD (.mkE c) false ds h)) := by
    conv at ok => unfold ev
    exact ok
  unfold evs at ok
  have kk : Kont X.K Fr ρ H Q (.exn c [], h) := ok
  refine kk (.ref a) ρ _ (ext_new na) (r.new na) ?_
  unfold RD
  refine ⟨[], ⟨a, oe, C, none, rfl, upd_same, (r.fresh na).1, (r.fresh na).2, hz, hf, .inl ⟨rfl, rfl⟩, E.n⟩, ?_⟩
  unfold RDs
  rfl
theorem w_mkE1 {x : Str} {e : Expr} {ce : Ex} {p pos : Pos} (E : Err1 X.prog X.K X.mg c C) (hx : x = Str.ofString c) (hg : Gl X x) (hdb : (x == ("__debug__" : Str)) = false) (hr : Room k X.A)
    (he : starEach [e] X.env = (false, eval e X.env) :: starEach [] X.env) (h : SE X W e (ev φ ce)) : SE X W (.Call (.Name x p) [e] [] pos) (ev φ (.bi (.mkE c) false (.cons ce .nil))) := by
  refine PE.imp (pe_fldV E.f hr hg (hx ▸ E.g) (pa_cons h pa_nil he) hdb he) fun σ H Q ⟨Fr, ρ, s, h, r, sr, ok⟩ => ⟨Fr, ρ, s, h, r, sr, ?_⟩
  have ok : okR (Kont X.K Fr ρ H Q) (W.p Fr ρ H σ) ((evs φ (.cons ce .nil) s h).bind fun (ds, h) => lift (biD (.mkE c) false ds h)) := by
    conv at ok => unfold ev
    exact ok
  unfold evs at ok
  cases e1 : ev φ ce s h with
  | stuck => rw [e1] at ok; exact ok.elim
  | exc z h1 => rw [e1] at ok; exact ok
  | ok q =>
    rw [e1] at ok
    unfold evs at ok
    obtain ⟨y, h1⟩ := q
    have ok3 : okR (Kont X.K Fr ρ H Q) (W.p Fr ρ H σ) (lift (mkED c [y] h1)) := ok
    clear ok
    obtain ⟨p2, e2, kk⟩ := okR_lift ok3
    clear ok3
    unfold mkED at e2
    dsimp only at e2
    split at e2
    · cases e2
      intro v ρ1 H1 x1 r1 d1
      refine ⟨v, rfl, fun a d oe nd na ne hz hf => ?_⟩
      have na2 : (upd H1 d (.xd [(fldOf c, v)])) a = none := by rw [upd_ne (Ne.symm ne)]; exact na
      have rn := r1.new (o := .xd [(fldOf c, v)]) nd
      have xx : Ext ρ1 H1 ρ1 (upd (upd H1 d (.xd [(fldOf c, v)])) a (.frz oe (.own 0))) := Ext.step rn (ext_new nd) (ext_new na2)
      refine kk (.ref a) ρ1 _ (Ext.step r1 x1 xx) (rn.new na2) ?_
      have da : d ∉ ρ1 ∧ d ∉ Fr := r1.fresh nd
      have aa : a ∉ ρ1 ∧ a ∉ Fr := r1.fresh na
      unfold RD
      refine ⟨[v], ⟨a, oe, C, some d, rfl, upd_same, aa.1, aa.2, hz, hf, .inr ⟨d, v, rfl, rfl, by rw [upd_ne ne]; exact upd_same, da.1, da.2, E.x, E.f.no⟩, E.n⟩, ?_⟩
      exact .cons (RD.mono xx _ _ d1) RDs.nil
    · cases e2
theorem w_mkE1K {x : Str} {kws : List Keyword} {ce : Ex} {p pos : Pos} (E : Err1 X.prog X.K X.mg c C) (hx : x = Str.ofString c) (hg : Gl X x) (hdb : (x == ("__debug__" : Str)) = false) (hr : Room k X.A)
    (hall : (backToKw pos (keywordEach kws X.env)).all (·.1.isSome) = true) (hks : (backToKw pos (keywordEach kws X.env)).filterMap (·.1) = [fldOf c])
    (hpl : ((backTo pos (starEach [] X.env)).any (·.1) || (backToKw pos (keywordEach kws X.env)).any (·.1.isNone)) = false) (h : SK X W kws (evs φ (.cons ce .nil))) : SE X W (.Call (.Name x p) [] kws pos) (ev φ (.bi (.mkE c) false (.cons ce .nil))) := by
  refine PE.imp (pe_fldVK E.f hr hg (hx ▸ E.g) h hdb hall hks hpl) fun σ H Q ⟨Fr, ρ, s, h, r, sr, ok⟩ => ⟨Fr, ρ, s, h, r, sr, ?_⟩
  have ok : okR (Kont X.K Fr ρ H Q) (W.p Fr ρ H σ) ((evs φ (.cons ce .nil) s h).bind fun (ds, h) => lift (biD (.mkE c) false ds h)) := by
    conv at ok => unfold ev
    exact ok
  have ev1 : evs φ (.cons ce .nil) s h = (ev φ ce s h).bind fun p => .ok ([p.1], p.2) := by
    unfold evs
    congr 1
  rw [ev1] at ok ⊢
  cases e1 : ev φ ce s h with
  | stuck => rw [e1] at ok; exact ok.elim
  | exc z h1 => rw [e1] at ok; exact ok
  | ok q =>
    rw [e1] at ok
    obtain ⟨y, h1⟩ := q
    have ok3 : okR (Kont X.K Fr ρ H Q) (W.p Fr ρ H σ) (lift (mkED c [y] h1)) := ok
    clear ok
    obtain ⟨p2, e2, kk⟩ := okR_lift ok3
    clear ok3
    unfold mkED at e2
    dsimp only at e2
    split at e2
    · cases e2
      intro vs ρ1 H1 x1 r1 d1
      have d1 : RDs X.K Fr ρ1 H1 [y] vs := d1
      unfold RDs at d1
      obtain ⟨v, t, rfl, d3, d2⟩ := d1
      unfold RDs at d2
      subst d2
      refine ⟨v, rfl, fun a d oe nd na ne hz hf => ?_⟩
      have na2 : (upd H1 d (.xd [(fldOf c, v)])) a = none := by rw [upd_ne (Ne.symm ne)]; exact na
      have rn := r1.new (o := .xd [(fldOf c, v)]) nd
      have xx : Ext ρ1 H1 ρ1 (upd (upd H1 d (.xd [(fldOf c, v)])) a (.frz oe (.own 0))) := Ext.step rn (ext_new nd) (ext_new na2)
      refine kk (.ref a) ρ1 _ (Ext.step r1 x1 xx) (rn.new na2) ?_
      have da : d ∉ ρ1 ∧ d ∉ Fr := r1.fresh nd
      have aa : a ∉ ρ1 ∧ a ∉ Fr := r1.fresh na
      unfold RD
      refine ⟨[v], ⟨a, oe, C, some d, rfl, upd_same, aa.1, aa.2, hz, hf, .inr ⟨d, v, rfl, rfl, by rw [upd_ne ne]; exact upd_same, da.1, da.2, E.x, E.f.no⟩, E.n⟩, ?_⟩
      exact .cons (RD.mono xx _ _ d3) RDs.nil
    · cases e2
end
end FF

/-! FFVE: isinstance(ValueError("x"), C). -/
namespace FF
open PySem PySem.Spec PyProof.Rows L2
section
variable {X : Cx} {T N I : String} {x : Str} {p pos : Pos} {e : Expr} {es : List Expr} {t : TA}
/-- T(e, ..), an error of a built-in class, as a value -/
theorem pe_exbV (F : ExcB T N I) (hg : Gl X x) (hm : X.mg x = none) (hv : bootBuiltins x = some (.type T)) (ha : PA X (e :: es) t) (hn : x ≠ "__name__") (hdb : (x == ("__debug__" : Str)) = false)
    (he : starEach (e :: es) X.env = (false, eval e X.env) :: starEach es X.env) (hpl : (backTo pos (starEach es X.env)).any (·.1) = false) :
    PE X (.Call (.Name x p) (e :: es) [] pos) (fun σ H Q => t σ H fun vs H1 => vs.length ≤ sizeLine ∧ ∀ a oe, H1 a = none → Zc (.type T) none oe → Q (.ref a) (upd H1 a (.frz oe (.own 0)))) := by
  refine ⟨fun pins s σ H Q J h => ?_⟩
  refine wpAny_Call_Name_kw (ld_blt J hg hm hv ?_ hn hdb)
  refine PyProof.Rows.callWith_type1 (thn (ha.run pos pins s σ H _ J h) fun us s1 hh => ?_) he hpl
  obtain ⟨vs, H1, I1, r1, q0, q1⟩ := hh
  obtain ⟨hp1, g1, d1, tk1, os1⟩ := s1
  refine wpAny_call_exc F.call (fun h' a mk => ?_) (Nat.le_trans (Nat.le_of_eq r1.length.symm) q0)
  have mk := PySem.Heap.MadeExc.of mk
  have na : H1 a = none := I1.hok.gone mk.new
  obtain ⟨t0, ht, _, _⟩ := mk.there
  exact ⟨.ref a, upd H1 a (.frz _ (.own 0)), I1.laidN mk.keeps mk.new na ⟨ht, ⟨_, ht⟩⟩, rfl, q1 a _ na ⟨rfl, rfl⟩⟩
end
section
variable {X : Cx}
theorem call_isVE {cv : Value} (hk : PySem.W.kitOne X.K (.type "ValueError") cv = some false) : CallR X (.builtin "isinstance") (fun xs H Q => ∃ (a : Addr) (oe : Obj) (cV : V), xs = [.ref a, cV] ∧ (∀ u, RelV cV u → u = cv) ∧ H a = some (.frz oe (.own 0)) ∧ Zc (.type "ValueError") none oe ∧ Q (.bl false) H) := by
  intro pins s σ H xs us Q I r h
  obtain ⟨a, oe, cV, rfl, hcv, ha, hz, q⟩ := h
  rcases r with _ | ⟨rx, _ | ⟨rt, rr⟩⟩
  cases rr
  cases rx
  cases hcv _ rt
  obtain ⟨hget, _⟩ := (show ObjOk X.prog X.w H s.heap a (.frz oe (.own 0)) from I.hok a _ ha)
  exact PySem.W.kia_one (PySem.W.kitx_bexc PySem.F.excAttr_ValueError PySem.F.lkClass_ValueError PySem.F.soClass_ValueError (by decide)) I.kIn ⟨oe, hget, hz.1⟩ hk (fun z => nomatch z) fun tk => ⟨.bl _, H, I.kept (t' := tk) fun _ _ z => z, rfl, q⟩
variable {W : EK X.K} {φ : Fn} {pos : Pos}
theorem w_isVE {xf m : Str} {CF : Addr} {p2 p3 p4 p5 p6 : Pos} {j : Nat} (hk : PySem.W.kitOne X.K (.type "ValueError") (.ref CF) = some false) (mF : X.mg xf = some (.ref CF)) (gI : Gl X "isinstance") (mI : X.mg "isinstance" = none) (gF : Gl X xf) (hdF : (xf == ("__debug__" : Str)) = false)
    (gV : Gl X "ValueError") (mV : X.mg "ValueError" = none)
    (he : starEach [.Constant (.str m) j p5] X.env = (false, eval (.Constant (.str m) j p5) X.env) :: starEach [] X.env)
    (hs : starEach [.Call (.Name "ValueError" p3) [.Constant (.str m) j p5] [] p6, .Name xf p4] X.env = (false, eval (.Call (.Name "ValueError" p3) [.Constant (.str m) j p5] [] p6) X.env) :: starEach [.Name xf p4] X.env) :
    SE X W (.Call (.Name "isinstance" p2) [.Call (.Name "ValueError" p3) [.Constant (.str m) j p5] [] p6, .Name xf p4] [] pos) (ev φ (.const (.bl false))) := by
  refine PE.imp (pe_callB (call_isVE hk) gI mI rfl (pa_cons (pe_exbV exb_ValueError gV mV boot_ValueError (pa_cons pe_str pa_nil he) (by decide) (by decide) he rfl) (pa_cons (pe_glob (v := .ref CF) gF mF rfl hdF) pa_nil) hs) (by decide) (by decide) hs) fun σ H Q ⟨Fr, ρ, s, h, r, sr, ok⟩ => ?_
  conv at ok => unfold ev
  have k : Kont X.K Fr ρ H Q (.bl false, h) := ok
  have l1 : [V.str m].length ≤ sizeLine := by
    show 1 ≤ sizeLine
    rw [sizeLine_eq]; decide
  refine ⟨l1, fun a oe na hz => ?_⟩
  exact ⟨a, oe, .ref CF, rfl, fun u r => r, upd_same, hz, k (.bl false) ρ _ (ext_new na) (r.new na) (rd_bl.mpr rfl)⟩
end
end FF

/-! FFMath: reckoning with the evaluator. -/
namespace FF
open PySem PySem.Spec L2
/-- r ends well, as P says -/
def Wp {α : Type} (r : R α) (P : α → Prop) : Prop := ∃ a, r = .ok a ∧ P a
theorem Wp.ok {α : Type} {a : α} {P : α → Prop} (h : P a) : Wp (.ok a) P := ⟨a, rfl, h⟩
theorem Wp.bind {α β : Type} {r : R α} {f : α → R β} {P : β → Prop} (h : Wp r fun a => Wp (f a) P) : Wp (r.bind f) P := by
  obtain ⟨a, rfl, b, e, q⟩ := h
  exact ⟨b, e, q⟩
theorem Wp.mono {α : Type} {r : R α} {P Q : α → Prop} (h : Wp r P) (i : ∀ a, P a → Q a) : Wp r Q := let ⟨a, e, q⟩ := h; ⟨a, e, i a q⟩
theorem Wp.of_eq {α : Type} {r r' : R α} {P : α → Prop} (h : Wp r' P) (e : r = r') : Wp r P := e ▸ h
theorem Wp.hush {α : Type} {r : R α} {P : α → Prop} (h : Wp r P) : Wp (FF.hush r) P := by
  obtain ⟨a, rfl, q⟩ := h
  exact ⟨a, rfl, q⟩
/-- a for: the invariant by the turn -/
theorem wp_loopF {w : Watch} {step : D → Env' → Hq → R Fl} {Q : Fl → Prop} (I : Nat → Env' → Hq → Prop) : ∀ (xs : List D) (k : Nat) (s : Env') (h : Hq), I k s h →
    (∀ i d s h, xs[i]? = some d → I (k + i) s h → stands h w = true ∧ Wp (step d s h) fun
      | .nx s h => I (k + i + 1) s h
      | .ct s h => I (k + i + 1) s h
      | .bk s h => Q (.nx s h)
      | .rt d h => Q (.rt d h)) →
    (∀ s h, I (k + xs.length) s h → stands h w = true ∧ Q (.nx s h)) → Wp (loopF w step xs s h) Q
  | [], k, s, h, i0, _, fin => by
    obtain ⟨a, b⟩ := fin s h i0
    unfold loopF
    rw [if_pos a]
    exact .ok b
  | x :: xs, k, s, h, i0, st, fin => by
    obtain ⟨a, b⟩ := st 0 x s h rfl i0
    unfold loopF
    rw [if_pos a]
    refine .bind (b.mono fun f q => ?_)
    have go : ∀ s h, I (k + 1) s h → Wp (loopF w step xs s h) Q := fun s h j => wp_loopF I xs (k + 1) s h j
      (fun i d s h e z => by
        have := st (i + 1) d s h e (by rw [show k + (i + 1) = k + 1 + i by omega]; exact z)
        rw [show k + (i + 1) = k + 1 + i by omega] at this
        exact this)
      (fun s h z => fin s h (by rw [List.length_cons, show k + (xs.length + 1) = k + 1 + xs.length by omega]; exact z))
    cases f with
    | nx s h => exact go s h q
    | ct s h => exact go s h q
    | bk s h => exact .ok q
    | rt d h => exact .ok q
/-- a comprehension's turns, the invariant by the turn -/
theorem wp_turns {w : Watch} {step : D → Hq → R (Option D × Hq)} {Q : List D × Hq → Prop} (I : Nat → List D → Hq → Prop) : ∀ (xs : List D) (k : Nat) (acc : List D) (h : Hq), I k acc h →
    (∀ i d acc h, xs[i]? = some d → I (k + i) acc h → stands h w = true ∧ acc.length + 1 ≤ 16777216 ∧ Wp (step d h) fun r => I (k + i + 1) (match r.1 with | some y => acc ++ [y] | none => acc) r.2) →
    (∀ acc h, I (k + xs.length) acc h → stands h w = true ∧ Q (acc, h)) → Wp (turns w step xs acc h) Q
  | [], k, acc, h, i0, _, fin => by
    obtain ⟨a, b⟩ := fin acc h i0
    unfold turns
    rw [if_pos a]
    exact .ok b
  | x :: xs, k, acc, h, i0, st, fin => by
    obtain ⟨a, l, b⟩ := st 0 x acc h rfl i0
    unfold turns
    rw [if_pos a]
    refine .bind (b.mono fun f q => ?_)
    rw [show lineOk (acc.length + 1) = true from decide_eq_true l, if_pos rfl]
    exact wp_turns I xs (k + 1) _ f.2 q
      (fun i d acc h e z => by
        have := st (i + 1) d acc h e (by rw [show k + (i + 1) = k + 1 + i by omega]; exact z)
        rw [show k + (i + 1) = k + 1 + i by omega] at this
        exact this)
      (fun acc h z => fin acc h (by rw [List.length_cons, show k + (xs.length + 1) = k + 1 + xs.length by omega]; exact z))
/-! ### trees that are shown -/
mutual
def D.Good (k : Nat) : D → Prop
  | .non => True
  | .bl _ => True
  | .int i => i.natAbs < 10 ^ k
  | .str s => ∀ c ∈ s.cps.toList, c < 16 ^ 8
  | .tup ds => D.Goods k ds
  | .lst ds => D.Goods k ds
  | .ktp ns => ∀ i ∈ ns, i.natAbs < 10 ^ k
  | _ => False
def D.Goods (k : Nat) : List D → Prop
  | [] => True
  | d :: ds => D.Good k d ∧ D.Goods k ds
end
mutual
def D.bulk : D → Nat
  | .str s => s.cps.size
  | .tup ds => D.bulks ds
  | .lst ds => D.bulks ds
  | .ktp ns => ns.length
  | _ => 0
def D.bulks : List D → Nat
  | [] => 0
  | d :: ds => D.bulk d + 1 + D.bulks ds
end
mutual
def D.deepn : D → Nat
  | .tup ds => D.deepns ds + 1
  | .lst ds => D.deepns ds + 1
  | .ktp _ => 1
  | _ => 0
def D.deepns : List D → Nat
  | [] => 0
  | d :: ds => max (D.deepn d) (D.deepns ds)
end
/-- its tree -/
structure PyOf (k : Nat) (d : D) (p : PyData) : Prop where
  py : D.py d = some p
  short : p.leavesShort (k + 1) = true
  show' : p.showable = true
  nod : p.hasDict = false
  bulk : p.bulk = d.bulk
  deep : p.depth = d.deepn
structure PysOf (k : Nat) (d : List D) (p : List PyData) : Prop where
  py : D.pys d = some p
  short : PyData.leavesShortAll (k + 1) p = true
  show' : PyData.showableAll p = true
  nod : PyData.hasDictAll p = false
  bulk : PyData.bulkAll p = D.bulks d
  deep : PyData.depthAll p = D.deepns d
theorem int_py {k : Nat} (hk : 0 < k) (hk2 : k ≤ 500) {i : Int} (g : i.natAbs < 10 ^ k) : PyOf k (.int i) (.int i) := by
  refine ⟨by unfold D.py; rfl, ?_, ?_, rfl, rfl, rfl⟩
  · unfold PyData.leavesShort
    refine decide_eq_true ?_
    have := int_text_length_le10 hk g
    show (Str.ofString (toString i)).length ≤ k + 1
    rw [ofString_length]; exact this
  · unfold PyData.showable
    refine decide_eq_true ?_
    by_cases z : i.natAbs = 0
    · rw [z]; decide
    · refine (Nat.log2_lt z).mpr (Nat.lt_of_lt_of_le g ?_)
      calc 10 ^ k ≤ 10 ^ 500 := Nat.pow_le_pow_right (by decide) hk2
        _ ≤ 2 ^ 1920 := by decide +kernel
theorem ints_py {k : Nat} (hk : 0 < k) (hk2 : k ≤ 500) : ∀ ns : List Int, (∀ i ∈ ns, i.natAbs < 10 ^ k) → PyData.leavesShortAll (k + 1) (ns.map .int) = true ∧ PyData.showableAll (ns.map .int) = true ∧ PyData.hasDictAll (ns.map .int) = false ∧ PyData.bulkAll (ns.map .int) = ns.length ∧ PyData.depthAll (ns.map .int) = 0
  | [], _ => ⟨rfl, rfl, rfl, rfl, rfl⟩
  | n :: ns, g => by
    obtain ⟨q1, q2, q3, q4, q5⟩ := ints_py hk hk2 ns fun i hi => g i (List.mem_cons_of_mem _ hi)
    have p := int_py hk hk2 (g n List.mem_cons_self)
    refine ⟨?_, ?_, ?_, ?_, ?_⟩
    · rw [List.map_cons]; unfold PyData.leavesShortAll; rw [p.short, q1]; rfl
    · rw [List.map_cons]; unfold PyData.showableAll; rw [p.show', q2]; rfl
    · rw [List.map_cons]; unfold PyData.hasDictAll; rw [p.nod, q3]; rfl
    · rw [List.map_cons]; unfold PyData.bulkAll; rw [p.bulk, q4, D.bulk, List.length_cons]
      all_goals first | omega | simp
    · rw [List.map_cons]; unfold PyData.depthAll; rw [p.deep, q5, D.deepn]
      all_goals simp
mutual
theorem good_py {k : Nat} (hk : 0 < k) (hk2 : k ≤ 500) : ∀ d : D, d.Good k → ∃ p, PyOf k d p
  | .non, _ => ⟨.none, by unfold D.py; rfl, rfl, rfl, rfl, rfl, rfl⟩
  | .bl b, _ => ⟨.bool b, by unfold D.py; rfl, rfl, rfl, rfl, rfl, rfl⟩
  | .int i, g => by
    unfold D.Good at g
    refine ⟨.int i, by unfold D.py; rfl, ?_, ?_, rfl, rfl, rfl⟩
    · unfold PyData.leavesShort
      refine decide_eq_true ?_
      have := int_text_length_le10 hk g
      show (Str.ofString (toString i)).length ≤ k + 1
      rw [ofString_length]; exact this
    · unfold PyData.showable
      refine decide_eq_true ?_
      by_cases z : i.natAbs = 0
      · rw [z]; decide
      · refine (Nat.log2_lt z).mpr (Nat.lt_of_lt_of_le g ?_)
        calc 10 ^ k ≤ 10 ^ 500 := Nat.pow_le_pow_right (by decide) hk2
          _ ≤ 2 ^ 1920 := by decide +kernel
  | .str s, g => by
    unfold D.Good at g
    refine ⟨.str s, by unfold D.py; rfl, ?_, rfl, rfl, rfl, rfl⟩
    unfold PyData.leavesShort
    exact List.all_eq_true.mpr fun c hc => decide_eq_true (g c hc)
  | .tup ds, g => by
    unfold D.Good at g
    obtain ⟨ps, q⟩ := goods_py hk hk2 ds g
    exact ⟨.tuple ps, by unfold D.py; rw [q.py]; rfl, q.short, q.show', q.nod, q.bulk, by unfold PyData.depth D.deepn; rw [q.deep]⟩
  | .lst ds, g => by
    unfold D.Good at g
    obtain ⟨ps, q⟩ := goods_py hk hk2 ds g
    exact ⟨.list ps, by unfold D.py; rw [q.py]; rfl, q.short, q.show', q.nod, q.bulk, by unfold PyData.depth D.deepn; rw [q.deep]⟩
  | .scr _, g => g.elim
  | .ktp ns, g => by
    unfold D.Good at g
    obtain ⟨q1, q2, q3, q4, q5⟩ := ints_py hk hk2 ns g
    refine ⟨.tuple (ns.map .int), by unfold D.py; rfl, q1, q2, q3, ?_, ?_⟩
    · show PyData.bulkAll (ns.map .int) = _
      unfold D.bulk; exact q4
    · show PyData.depthAll (ns.map .int) + 1 = _
      unfold D.deepn; rw [q5]
  | .kpp _, g => g.elim
  | .ref _, g => g.elim
  | .dct _, g => g.elim
  | .exn _ _, g => g.elim
  | .opq _, g => g.elim
theorem goods_py {k : Nat} (hk : 0 < k) (hk2 : k ≤ 500) : ∀ ds : List D, D.Goods k ds → ∃ p, PysOf k ds p
  | [], _ => ⟨[], by unfold D.pys; rfl, rfl, rfl, rfl, rfl, rfl⟩
  | d :: ds, g => by
    unfold D.Goods at g
    obtain ⟨p, q⟩ := good_py hk hk2 d g.1
    obtain ⟨ps, qs⟩ := goods_py hk hk2 ds g.2
    refine ⟨p :: ps, by unfold D.pys; rw [q.py, qs.py], ?_, ?_, ?_, ?_, ?_⟩
    · unfold PyData.leavesShortAll; rw [q.short, qs.short]; rfl
    · unfold PyData.showableAll; rw [q.show', qs.show']; rfl
    · unfold PyData.hasDictAll; rw [q.nod, qs.nod]; rfl
    · unfold PyData.bulkAll D.bulks; rw [q.bulk, qs.bulk]
    · unfold PyData.depthAll D.deepns; rw [q.deep, qs.deep]
end
mutual
theorem good_melt {k : Nat} {g : List D → Option (List D)} {h : Hq} : ∀ d : D, d.Good k → D.melt g h d = some d
  | .non, _ => by unfold D.melt; rfl
  | .bl _, _ => by unfold D.melt; rfl
  | .int _, _ => by unfold D.melt; rfl
  | .str _, _ => by unfold D.melt; rfl
  | .tup ds, q => by unfold D.Good at q; unfold D.melt; rw [goods_melt ds q]; rfl
  | .lst ds, q => by unfold D.Good at q; unfold D.melt; rw [goods_melt ds q]; rfl
  | .scr _, g => g.elim
  | .ktp _, _ => by unfold D.melt; rfl
  | .kpp _, g => g.elim
  | .ref _, g => g.elim
  | .dct _, g => g.elim
  | .exn _ _, g => g.elim
  | .opq _, g => g.elim
theorem goods_melt {k : Nat} {g : List D → Option (List D)} {h : Hq} : ∀ ds : List D, D.Goods k ds → D.melts g h ds = some ds
  | [], _ => by unfold D.melts; rfl
  | d :: ds, q => by unfold D.Goods at q; unfold D.melts; rw [good_melt d q.1, goods_melt ds q.2]
end
/-- its text -/
def D.shown (d : D) : Str := match D.py d with | some p => p.shown | none => ""
theorem deepns_map {α : Type} {f : α → D} {c : Nat} : ∀ {xs : List α}, (∀ x ∈ xs, (f x).deepn ≤ c) → D.deepns (xs.map f) ≤ c
  | [], _ => by rw [List.map_nil, D.deepns]; exact Nat.zero_le _
  | x :: xs, h => by
    rw [List.map_cons, D.deepns]
    exact Nat.max_le.mpr ⟨h x List.mem_cons_self, deepns_map fun y hy => h y (List.mem_cons_of_mem _ hy)⟩
/-! ### turns over things that are mapped -/
/-- a comprehension with a test or without, whose parts change nothing -/
theorem wp_fmap {α : Type} {w : Watch} {step : D → Hq → R (Option D × Hq)} {Q : List D × Hq → Prop} {h : Hq} (f : α → D) (g : α → Option D) (as : List α) (hw : stands h w = true) (hl : as.length ≤ 16777216)
    (hs : ∀ a ∈ as, Wp (step (f a) h) fun r => r = (g a, h)) (q : Q (as.filterMap g, h)) : Wp (turns w step (as.map f) [] h) Q := by
  refine wp_turns (fun k acc h' => acc = (as.take k).filterMap g ∧ h' = h) _ 0 _ _ ⟨rfl, rfl⟩ ?_ ?_
  · rintro i d acc h' e ⟨rfl, rfl⟩
    rw [List.getElem?_map] at e
    cases q : as[i]? with
    | none => rw [q] at e; cases e
    | some a =>
      rw [q] at e; cases e
      have hi := (List.getElem?_eq_some_iff.mp q).1
      have l1 := List.length_filterMap_le g (as.take (0 + i))
      rw [List.length_take] at l1
      refine ⟨hw, by omega, (hs a (List.mem_of_getElem? q)).mono ?_⟩
      rintro _ rfl
      rw [Nat.zero_add, List.take_add_one, q, List.filterMap_append]
      cases g' : g a with
      | none => simp [g']
      | some y => simp [g']
  · rintro acc h' ⟨rfl, rfl⟩
    rw [Nat.zero_add, List.length_map, List.take_length]
    exact ⟨hw, q⟩
end FF

/-! FFWp: step by step through a core text. -/
namespace FF
open PySem PySem.Spec L2
def OkO {α : Type} (o : Option α) (P : α → Prop) : Prop := ∃ a, o = some a ∧ P a
def Cd (c : Bool) (A B : Prop) : Prop := (c = true → A) ∧ (c = false → B)
theorem OkO.of {α : Type} {o : Option α} {a : α} {P : α → Prop} (e : o = some a) (p : P a) : OkO o P := ⟨a, e, p⟩
theorem Cd.tt {A B : Prop} (a : A) : Cd true A B := ⟨fun _ => a, fun z => Bool.noConfusion z⟩
theorem Cd.ff {A B : Prop} (b : B) : Cd false A B := ⟨fun z => Bool.noConfusion z, fun _ => b⟩
theorem Wp.lift {α : Type} {o : Option α} {P : α → Prop} (h : OkO o P) : Wp (FF.lift o) P := let ⟨a, e, p⟩ := h; ⟨a, by rw [e]; rfl, p⟩
section
variable {φ : Fn} {s : Env'} {h : Hq} {P : D × Hq → Prop} {PA : List D × Hq → Prop} {PO : Option Int × Hq → Prop} {PB : Bool × Hq → Prop} {PI : Its' → Prop} {PF : Fl → Prop}
theorem x_var {i : Nat} {d : D} (e : s[i]? = some (some d)) (p : P (d, h)) : Wp (ev φ (.var i) s h) P := ⟨(d, h), by unfold ev; rw [e], p⟩
theorem x_const {d : D} (p : P (d, h)) : Wp (ev φ (.const d) s h) P := ⟨(d, h), by unfold ev; rfl, p⟩
theorem x_bin {op : Operator} {live : Bool} {a b : Ex} (w : Wp (ev φ a s h) fun (x, h1) => Wp (ev φ b s h1) fun (y, h2) => OkO (binop op live x y h2) P) : Wp (ev φ (.bin op live a b) s h) P := by
  unfold ev; exact .bind (w.mono fun ⟨_, _⟩ w => .bind (w.mono fun ⟨_, _⟩ w => .lift w))
theorem x_neg {a : Ex} (w : Wp (ev φ a s h) fun (x, h1) => OkO (negD x h1) P) : Wp (ev φ (.neg a) s h) P := by unfold ev; exact .bind (w.mono fun ⟨_, _⟩ w => .lift w)
theorem x_testOf {r : R (D × Hq)} (w : Wp r fun (x, h1) => OkO (truth h1 x) fun c => PB (c, h1)) : Wp (testOf r) PB := by
  refine .bind (w.mono fun ⟨_, _⟩ w => ?_)
  obtain ⟨c, e, k⟩ := w
  try dsimp only
  rw [e]
  exact .ok k
theorem x_not {a : Ex} (w : Wp (ev φ a s h) fun (x, h1) => OkO (truth h1 x) fun c => P (.bl (!c), h1)) : Wp (ev φ (.notV a) s h) P := by
  unfold ev; exact .bind (x_testOf (w.mono fun ⟨_, _⟩ w => let ⟨c, e, k⟩ := w; ⟨c, e, .ok k⟩))
theorem x_cmp {op : CmpOp} {a b : Ex} (w : Wp (ev φ a s h) fun (x, h1) => Wp (ev φ b s h1) fun (y, h2) => OkO (cmpop op x y h2) P) : Wp (ev φ (.cmp op a b) s h) P := by
  unfold ev; exact .bind (w.mono fun ⟨_, _⟩ w => .bind (w.mono fun ⟨_, _⟩ w => .lift w))
theorem x_and {a b : Ex} (w : Wp (ev φ a s h) fun (x, h1) => OkO (truth h1 x) fun c => Cd c (Wp (ev φ b s h1) P) (P (x, h1))) : Wp (ev φ (.andV a b) s h) P := by
  unfold ev
  refine .bind (w.mono fun ⟨_, _⟩ w => ?_)
  obtain ⟨c, e, t, f⟩ := w
  try dsimp only
  rw [e]
  cases c with
  | true => exact t rfl
  | false => exact .ok (f rfl)
theorem x_or {a b : Ex} (w : Wp (ev φ a s h) fun (x, h1) => OkO (truth h1 x) fun c => Cd c (P (x, h1)) (Wp (ev φ b s h1) P)) : Wp (ev φ (.orV a b) s h) P := by
  unfold ev
  refine .bind (w.mono fun ⟨_, _⟩ w => ?_)
  obtain ⟨c, e, t, f⟩ := w
  try dsimp only
  rw [e]
  cases c with
  | true => exact .ok (t rfl)
  | false => exact f rfl
theorem x_ife {t a b : Ex} (w : Wp (ev φ t s h) fun (x, h1) => OkO (truth h1 x) fun c => Cd c (Wp (ev φ a s h1) P) (Wp (ev φ b s h1) P)) : Wp (ev φ (.ife t a b) s h) P := by
  unfold ev
  refine .bind (x_testOf (w.mono fun ⟨_, _⟩ w => ?_))
  obtain ⟨c, e, t, f⟩ := w
  refine ⟨c, e, ?_⟩
  cases c with
  | true => exact t rfl
  | false => exact f rfl
theorem x_tup {es : Exs} (w : Wp (evs φ es s h) fun (xs, h1) => OkO (mkT xs h1) P) : Wp (ev φ (.tup es) s h) P := by unfold ev; exact .bind (w.mono fun ⟨_, _⟩ w => .lift w)
theorem x_lst {live : Bool} {es : Exs} (w : Wp (evs φ es s h) fun (xs, h1) => OkO (mkL live xs h1) P) : Wp (ev φ (.lst live es) s h) P := by unfold ev; exact .bind (w.mono fun ⟨_, _⟩ w => .lift w)
theorem x_dct {live : Bool} {es : Exs} (w : Wp (evs φ es s h) fun (xs, h1) => OkO (mkD live xs h1) P) : Wp (ev φ (.dct live es) s h) P := by unfold ev; exact .bind (w.mono fun ⟨_, _⟩ w => .lift w)
/-- a comprehension's turn -/
def stepC (φ : Fn) (c : Tg) (own : List Nat) (ifs : Exs) (elt : Ex) (s : Env') (x : D) (h : Hq) : R (Option D × Hq) := match asg c x (wipe' s own) with
  | some s' => hush ((evIf φ ifs s' h).bind fun (b, h) => if b then (ev φ elt s' h).bind fun (y, h) => .ok (some y, h) else .ok (none, h))
  | none => .stuck
theorem x_comp {live : Bool} {tg : Tg} {it : It} {ifs : Exs} {elt : Ex} {own : List Nat} (w : Wp (evIt φ it s h) fun (xs, wa, h1) => Wp (turns wa (stepC φ tg own ifs elt s) xs [] h1) fun (ys, h2) => OkO (mkL live ys h2) P) : Wp (ev φ (.comp live tg it ifs elt own) s h) P := by
  unfold ev; exact .bind (w.mono fun ⟨_, _, _⟩ w => .bind (w.mono fun ⟨_, _⟩ w => .lift w))
theorem x_stepC {c : Tg} {own : List Nat} {ifs : Exs} {elt : Ex} {x : D} {PS : Option D × Hq → Prop} (w : OkO (asg c x (wipe' s own)) fun s' => Wp (evIf φ ifs s' h) fun (b, h1) => Cd b (Wp (ev φ elt s' h1) fun (y, h2) => PS (some y, h2)) (PS (none, h1))) : Wp (stepC φ c own ifs elt s x h) PS := by
  obtain ⟨s', e, w⟩ := w
  unfold stepC
  rw [e]
  refine .hush (.bind (w.mono fun b w => ?_))
  obtain ⟨⟨⟩ | ⟨⟩, h1⟩ := b
  · exact .ok (w.2 rfl)
  · exact .bind ((w.1 rfl).mono fun ⟨_, _⟩ w => .ok w)
theorem x_ix {a i : Ex} (w : Wp (ev φ a s h) fun (x, h1) => Wp (ev φ i s h1) fun (y, h2) => OkO (ixD x y h2) P) : Wp (ev φ (.ix a i) s h) P := by unfold ev; exact .bind (w.mono fun ⟨_, _⟩ w => .bind (w.mono fun ⟨_, _⟩ w => .lift w))
theorem x_slice {a : Ex} {lo hi : Exo} (w : Wp (ev φ a s h) fun (x, h1) => Wp (evO φ lo s h1) fun (l, h2) => Wp (evO φ hi s h2) fun (u, h3) => OkO (sliceD x l u h3) P) : Wp (ev φ (.slice a lo hi) s h) P := by
  unfold ev; exact .bind (w.mono fun ⟨_, _⟩ w => .bind (w.mono fun ⟨_, _⟩ w => .bind (w.mono fun ⟨_, _⟩ w => .lift w)))
theorem x_call {f : Nat} {es : Exs} (w : Wp (evs φ es s h) fun (xs, h1) => Wp (φ f xs h1) P) : Wp (ev φ (.call f es) s h) P := by unfold ev; exact .bind (w.mono fun ⟨_, _⟩ w => w)
theorem x_bi {f : Bi} {live : Bool} {es : Exs} (w : Wp (evs φ es s h) fun (xs, h1) => OkO (biD f live xs h1) P) : Wp (ev φ (.bi f live es) s h) P := by unfold ev; exact .bind (w.mono fun ⟨_, _⟩ w => .lift w)
theorem x_me {m : Me} {o : Ex} {es : Exs} (w : Wp (ev φ o s h) fun (x, h1) => OkO (meKind m x h1) fun k => Wp (evs φ es s h1) fun (xs, h2) => OkO (meD k m x xs h2) P) : Wp (ev φ (.me m o es) s h) P := by
  unfold ev
  refine .bind (w.mono fun ⟨_, _⟩ w => ?_)
  obtain ⟨k, e, w⟩ := w
  try dsimp only
  rw [e]
  exact .bind (w.mono fun ⟨_, _⟩ w => .lift w)
theorem x_anil (p : PA ([], h)) : Wp (evs φ .nil s h) PA := ⟨_, by unfold evs; rfl, p⟩
theorem x_acons {e : Ex} {es : Exs} (w : Wp (ev φ e s h) fun (x, h1) => Wp (evs φ es s h1) fun (xs, h2) => PA (x :: xs, h2)) : Wp (evs φ (.cons e es) s h) PA := by
  unfold evs; exact .bind (w.mono fun ⟨_, _⟩ w => .bind (w.mono fun ⟨_, _⟩ w => .ok w))
theorem x_no (p : PO (none, h)) : Wp (evO φ .no s h) PO := ⟨_, by unfold evO; rfl, p⟩
theorem x_yes {e : Ex} (w : Wp (ev φ e s h) fun (x, h1) => ∃ i, x = .int i ∧ PO (some i, h1)) : Wp (evO φ (.yes e) s h) PO := by
  unfold evO
  refine .bind (w.mono fun p w => ?_)
  obtain ⟨d, h1⟩ := p
  obtain ⟨i, e, k⟩ := w
  try dsimp only at e
  subst e
  exact .ok k
theorem x_if0 (p : PB (true, h)) : Wp (evIf φ .nil s h) PB := ⟨_, by unfold evIf; rfl, p⟩
theorem x_iex {e : Ex} (w : Wp (ev φ e s h) fun (x, h1) => OkO (itD x h1) PI) : Wp (evIt φ (.ex e) s h) PI := by unfold evIt; exact .bind (w.mono fun ⟨_, _⟩ w => .lift w)
theorem x_range1 {e : Ex} (w : Wp (ev φ e s h) fun (x, h1) => OkO (rng1D x h1) PI) : Wp (evIt φ (.range1 e) s h) PI := by unfold evIt; exact .bind (w.mono fun ⟨_, _⟩ w => .lift w)
theorem x_range2 {a b : Ex} (w : Wp (ev φ a s h) fun (x, h1) => Wp (ev φ b s h1) fun (y, h2) => OkO (rng2D x y h2) PI) : Wp (evIt φ (.range2 a b) s h) PI := by unfold evIt; exact .bind (w.mono fun ⟨_, _⟩ w => .bind (w.mono fun ⟨_, _⟩ w => .lift w))
theorem x_set {tg : Tg} {e : Ex} (w : Wp (ev φ e s h) fun (x, h1) => OkO (asg tg x s) fun s' => PF (.nx s' h1)) : Wp (exS φ (.set tg e) s h) PF := by
  unfold exS
  refine .bind (w.mono fun ⟨_, _⟩ w => ?_)
  obtain ⟨s', e, k⟩ := w
  try dsimp only
  rw [e]
  exact .ok k
theorem x_setIx {o i e : Ex} (w : Wp (ev φ e s h) fun (v, h1) => Wp (ev φ o s h1) fun (x, h2) => Wp (ev φ i s h2) fun (k, h3) => OkO (setD x k v h3) fun h => PF (.nx s h)) : Wp (exS φ (.setIx o i e) s h) PF := by
  unfold exS
  exact .bind (w.mono fun ⟨_, _⟩ w => .bind (.hush (w.mono fun ⟨_, _⟩ w => .bind (.hush (w.mono fun ⟨_, _⟩ w => .bind (.lift (let ⟨a, e, z⟩ := w; ⟨a, e, .ok z⟩)))))))
theorem x_expr {e : Ex} (w : Wp (ev φ e s h) fun (_, h1) => PF (.nx s h1)) : Wp (exS φ (.expr e) s h) PF := by unfold exS; exact .bind (w.mono fun ⟨_, _⟩ w => .ok w)
theorem x_ret {e : Ex} (w : Wp (ev φ e s h) fun (x, h1) => PF (.rt x h1)) : Wp (exS φ (.ret e) s h) PF := by unfold exS; exact .bind (w.mono fun ⟨_, _⟩ w => .ok w)
theorem x_ite {t : Ex} {a b : Sms} (w : Wp (ev φ t s h) fun (x, h1) => OkO (truth h1 x) fun c => Cd c (Wp (exB φ a s h1) PF) (Wp (exB φ b s h1) PF)) : Wp (exS φ (.ite t a b) s h) PF := by
  unfold exS
  refine .bind (x_testOf (w.mono fun ⟨_, _⟩ w => ?_))
  obtain ⟨c, e, t, f⟩ := w
  refine ⟨c, e, ?_⟩
  cases c with
  | true => exact t rfl
  | false => exact f rfl
def stepL (φ : Fn) (c : Tg) (b : Sms) (x : D) (s : Env') (h : Hq) : R Fl := match asg c x s with | some s' => exB φ b s' h | none => .stuck
theorem x_stepL {c : Tg} {b : Sms} {x : D} (w : OkO (asg c x s) fun s' => Wp (exB φ b s' h) PF) : Wp (stepL φ c b x s h) PF := by
  obtain ⟨s', e, w⟩ := w
  unfold stepL
  rw [e]
  exact w
theorem x_for {tg : Tg} {it : It} {b : Sms} (w : Wp (evIt φ it s h) fun (xs, wa, h1) => Wp (loopF wa (stepL φ tg b) xs s h1) PF) : Wp (exS φ (.for tg it b) s h) PF := by unfold exS; exact .bind (w.mono fun ⟨_, _, _⟩ w => w)
theorem x_nil (p : PF (.nx s h)) : Wp (exB φ .nil s h) PF := ⟨_, by unfold exB; rfl, p⟩
def Nxt (φ : Fn) (r : Sms) (PF : Fl → Prop) : Fl → Prop
  | .nx s h => Wp (exB φ r s h) PF
  | f => PF f
theorem x_cons {a : Sm} {r : Sms} (w : Wp (exS φ a s h) (Nxt φ r PF)) : Wp (exB φ (.cons a r) s h) PF := by
  unfold exB
  refine .bind (w.mono fun f w => ?_)
  cases f with
  | nx s h => exact w
  | rt _ _ => exact .ok w
  | bk _ _ => exact .ok w
  | ct _ _ => exact .ok w
theorem nxt_nx {r : Sms} (w : Wp (exB φ r s h) PF) : Nxt φ r PF (.nx s h) := w
theorem nxt_rt {r : Sms} {d : D} (w : PF (.rt d h)) : Nxt φ r PF (.rt d h) := w
theorem end_rt {d : D} (p : P (d, h)) : Wp (endOf (.rt d h)) P := ⟨_, rfl, p⟩
end
/-! what is asked of one reckoning -/
section
variable {h : Hq} {P : D × Hq → Prop} {live : Bool}
theorem o_ne {x y : D} {b : Bool} (e : eqD h x y = some b) (p : P (.bl (!b), h)) : OkO (cmpop .NotEq x y h) P := ⟨_, by unfold cmpop; rw [e]; rfl, p⟩
theorem o_eq {x y : D} {b : Bool} (e : eqD h x y = some b) (p : P (.bl b, h)) : OkO (cmpop .Eq x y h) P := ⟨_, by unfold cmpop; rw [e]; rfl, p⟩
theorem o_mul {i j : Int} (e : mulOk i j = true) (p : P (.int (i * j), h)) : OkO (binop .Mult live (.int i) (.int j) h) P := ⟨_, by simp [binop, mulD, e], p⟩
theorem o_div {i j : Int} (h0 : 0 < j) (h1 : j.natAbs.log2 < 9000) (p : P (.int (i / j), h)) : OkO (binop .FloorDiv live (.int i) (.int j) h) P := ⟨_, by simp [binop, int2, h0, h1], p⟩
theorem o_mod {i j : Int} (h0 : 0 < j) (p : P (.int (i % j), h)) : OkO (binop .Mod live (.int i) (.int j) h) P := ⟨_, by simp [binop, int2, h0], p⟩
theorem o_ixL {ds : List D} {i : Int} {d : D} (e : at? ds i = some d) (p : P (d, h)) : OkO (ixD (.lst ds) (.int i) h) P := ⟨_, by simp [ixD, itemsOf, e, ofO], p⟩
theorem o_app {n : Nat} {ds : List D} {d : D} (hn : h[n]? = some (.lst ds)) (hl : ds.length < 16777216) (p : P (.non, h.set n (.lst (ds ++ [d])))) : OkO (meD .lst .append (.ref n) [d] h) P := ⟨_, by simp [meD, appendD, hn, hl, hset], p⟩
theorem o_pop {n : Nat} {ds : List D} {d : D} (hn : h[n]? = some (.lst ds)) (hd : ds[ds.length - 1]? = some d) (p : P (d, h.set n (.lst ds.dropLast))) : OkO (meD .lst .pop (.ref n) [] h) P := ⟨_, by simp [meD, popD, hn, hd, hset], p⟩
theorem o_kind {n : Nat} {ds : List D} {m : Me} {PK : Kd → Prop} (hn : h[n]? = some (.lst ds)) (hf : meFits m .lst = true) (p : PK .lst) : OkO (meKind m (.ref n) h) PK := ⟨_, by simp [meKind, kdOf, hn, hf], p⟩
theorem o_rng1 {j : Int} {PI : Its' → Prop} (h0 : -(2 ^ 62) ≤ j) (h1 : j < 2 ^ 62) (p : PI (rangeL 0 j, [], h)) : OkO (rng1D (.int j) h) PI := ⟨_, by simp only [rng1D]; rw [if_pos ⟨h0, h1⟩], p⟩
theorem o_rng2 {i j : Int} {PI : Its' → Prop} (h0 : -(2 ^ 62) ≤ i) (h1 : i < 2 ^ 62) (h2 : -(2 ^ 62) ≤ j) (h3 : j < 2 ^ 62) (p : PI (rangeL i j, [], h)) : OkO (rng2D (.int i) (.int j) h) PI := ⟨_, by simp only [rng2D]; rw [if_pos ⟨h0, h1, h2, h3⟩], p⟩
theorem o_lst {ds : List D} (hl : ds.length ≤ 16777216) (p : P (.lst ds, h)) : OkO (mkL false ds h) P := ⟨_, by simp [mkL, lineOk, hl], p⟩
end
theorem rangeL_get {lo hi : Int} {i : Nat} {d : D} (e : (rangeL lo hi)[i]? = some d) : d = .int (lo + i) ∧ lo + i < hi := by
  unfold rangeL at e
  rw [List.getElem?_map] at e
  cases q : (List.range (hi - lo).toNat)[i]? with
  | none => rw [q] at e; cases e
  | some j =>
    rw [q] at e
    obtain ⟨h1, h2⟩ := List.getElem?_eq_some_iff.mp q
    rw [List.getElem_range] at h2
    rw [List.length_range] at h1
    subst h2
    cases e
    exact ⟨rfl, by omega⟩
theorem rangeL_len {lo hi : Int} : (rangeL lo hi).length = (hi - lo).toNat := by unfold rangeL; rw [List.length_map, List.length_range]
def Sms.drop : Sms → Nat → Sms
  | s, 0 => s
  | .nil, _ + 1 => .nil
  | .cons _ r, n + 1 => r.drop n
/-- the block of a loop -/
def Sm.blk : Sm → Sms
  | .for _ _ b => b
  | .while _ b => b
  | _ => .nil
theorem at_mod {α : Type} {xs : List α} {i : Int} (h0 : 0 ≤ i) (h1 : i < xs.length) : at? xs i = some (xs[i.toNat]'(by omega)) := by
  obtain ⟨j, rfl⟩ := Int.eq_ofNat_of_zero_le h0
  have hj : j < xs.length := by omega
  unfold at?
  exact atI_nat (j := j) (List.getElem?_eq_getElem hj)
/-! ### what raises -/
def Xr {α : Type} (r : R α) (e : D) (h : Hq) : Prop := r = .exc e h
section
variable {φ : Fn} {s : Env'} {h h2 : Hq} {e : D} {PF : Fl → Prop}
theorem Xr.bind {α β : Type} {r : R α} {f : α → R β} (x : Xr r e h2) : Xr (r.bind f) e h2 := by
  rw [show r = .exc e h2 from x]
  rfl
end
end FF

/-! FFReel: the drawing of a law's things from its script. -/
namespace FF
open PySem PySem.Spec L2
/-- the reel of a script -/
structure Reel where
  deep : List Int
  cells : List Int
  stamp : Int
  count : Int
structure Reel.Ok (r : Reel) : Prop where
  some' : 0 < r.cells.length
  few : r.cells.length ≤ 64
  fewD : r.deep.length ≤ 64
  s0 : 0 ≤ r.stamp
  s1 : r.stamp < 4294967296
def Reel.h (r : Reel) (rest : Hq) : Hq := .lst (r.deep.map .int) :: .dct [(.inr "deep", .ref 0), (.inr "cells", .lst (r.cells.map .int)), (.inr "stamp", .int r.stamp), (.inr "count", .int r.count)] :: rest
theorem unders_ints (n : Nat) : ∀ ns : List Int, D.unders n (ns.map .int) = true
  | [] => rfl
  | _ :: ns => by simp [D.unders, D.under, unders_ints n ns]
theorem pys_ints : ∀ ns : List Int, D.pys (ns.map .int) = some (ns.map .int)
  | [] => rfl
  | n :: ns => by simp [D.pys, D.py, pys_ints ns]
theorem melts_ints {g : List D → Option (List D)} {h : Hq} : ∀ ns : List Int, D.melts g h (ns.map .int) = some (ns.map .int)
  | [] => rfl
  | n :: ns => by simp [D.melts, D.melt, melts_ints ns]
theorem shaped_ints : ∀ ns : List Int, SeqAt.shaped (.list (ns.map .int)) = true := by
  intro ns
  have h1 : PyData.canLayAll0 (ns.map .int) = true := by
    induction ns with
    | nil => rfl
    | cons n ns ih => rw [List.map_cons, PyData.canLayAll0, PyData.canLay0, ih]; rfl
  have h2 : PyData.depthAll (ns.map .int) = 0 := by
    induction ns with
    | nil => rfl
    | cons n ns ih => rw [List.map_cons, PyData.depthAll, PyData.depth, ih (by rw [List.map_cons, PyData.canLayAll0, Bool.and_eq_true] at h1; exact h1.2)]; rfl
  unfold SeqAt.shaped PyData.canLay0 PyData.depth
  rw [h1, h2]; rfl
/-- a list of ints against [] -/
theorem eq_nil {h : Hq} {n : Nat} {ns : List Int} (e : h[n]? = some (.lst (ns.map .int))) : eqD h (.ref n) (.lst []) = some ns.isEmpty := by
  have m1 : pyOf h (.ref n) = some (.list (ns.map .int)) := by
    unfold pyOf melt1 meltN D.melts D.melt
    rw [e]
    simp [meltN, melts_ints, D.melts, D.py, pys_ints]
  have m2 : pyOf h (.lst []) = some (.list []) := by
    simp [pyOf, melt1, meltN, D.melts, D.melt, D.py, D.pys]
  unfold eqD scalEq
  rw [m1, m2]
  show eqPy _ _ = _
  unfold eqPy
  rw [shaped_ints ns, show SeqAt.shaped (.list []) = true from shaped_ints []]
  cases ns with
  | nil => rfl
  | cons a t => rfl
theorem mulOk_r {i j : Int} (h0 : -(2 ^ 64) < j) (h : j < 2 ^ 64) : mulOk i j = true := by
  unfold mulOk
  rw [show decide (-(2 ^ 64 : Int) < j ∧ j < 2 ^ 64) = true from decide_eq_true ⟨h0, h⟩]
  simp
theorem mulOk_l {i j : Int} (h0 : -(2 ^ 64) < i) (h : i < 2 ^ 64) : mulOk i j = true := by
  unfold mulOk
  rw [show decide (-(2 ^ 64 : Int) < i ∧ i < 2 ^ 64) = true from decide_eq_true ⟨h0, h⟩]
  simp
theorem thaw_int {n : Nat} {h : Hq} {z : Int} : thaw1 n h (.int z) = some (.int z) := by
  simp [thaw1, thawN, D.thaws, D.thaw, D.unders, D.under]
/-! ### what draws: a value, the reel goes on -/
mutual
theorem thaw_pure {n : Nat} {g : List D → Option (List D)} {h : Hq} : ∀ d : D, d.pure = true → D.thaw n g h d = some d
  | .non, _ => by unfold D.thaw; rfl
  | .bl _, _ => by unfold D.thaw; rfl
  | .int _, _ => by unfold D.thaw; rfl
  | .str _, _ => by unfold D.thaw; rfl
  | .tup ds, q => by unfold D.pure at q; unfold D.thaw; rw [thaws_pure ds q]; rfl
  | .lst ds, q => by unfold D.pure at q; unfold D.thaw; rw [thaws_pure ds q]; rfl
  | .scr _, _ => by unfold D.thaw; rfl
  | .ktp _, _ => by unfold D.thaw; rfl
  | .kpp _, _ => by unfold D.thaw; rfl
  | .ref _, q => by unfold D.pure at q; cases q
  | .dct ds, q => by unfold D.pure at q; unfold D.thaw; rw [thaws_pure ds q]; rfl
  | .exn _ ds, q => by unfold D.pure at q; unfold D.thaw; rw [thaws_pure ds q]; rfl
  | .opq _, _ => by unfold D.thaw; rfl
theorem thaws_pure {n : Nat} {g : List D → Option (List D)} {h : Hq} : ∀ ds : List D, D.pures ds = true → D.thaws n g h ds = some ds
  | [], _ => by unfold D.thaws; rfl
  | d :: ds, q => by
    unfold D.pures at q
    rw [Bool.and_eq_true] at q
    unfold D.thaws
    rw [thaw_pure d q.1, thaws_pure ds q.2]
end
theorem thaw1_pure {n : Nat} {h : Hq} {d : D} (q : d.pure = true) : thaw1 n h d = some d := by
  unfold thaw1 thawN
  rw [thaws_pure [d] (by unfold D.pures; rw [q]; rfl)]
mutual
theorem under_pure {n : Nat} : ∀ d : D, d.pure = true → d.under n = true
  | .non, _ => by unfold D.under; rfl
  | .bl _, _ => by unfold D.under; rfl
  | .int _, _ => by unfold D.under; rfl
  | .str _, _ => by unfold D.under; rfl
  | .tup ds, q => by unfold D.pure at q; unfold D.under; exact unders_pure ds q
  | .lst ds, q => by unfold D.pure at q; unfold D.under; exact unders_pure ds q
  | .scr _, _ => by unfold D.under; rfl
  | .ktp _, _ => by unfold D.under; rfl
  | .kpp _, _ => by unfold D.under; rfl
  | .ref _, q => by unfold D.pure at q; cases q
  | .dct ds, q => by unfold D.pure at q; unfold D.under; exact unders_pure ds q
  | .exn _ ds, q => by unfold D.pure at q; unfold D.under; exact unders_pure ds q
  | .opq _, _ => by unfold D.under; rfl
theorem unders_pure {n : Nat} : ∀ ds : List D, D.pures ds = true → D.unders n ds = true
  | [], _ => by unfold D.unders; rfl
  | d :: ds, q => by
    unfold D.pures at q
    rw [Bool.and_eq_true] at q
    unfold D.unders
    rw [under_pure d q.1, unders_pure ds q.2]; rfl
end
theorem pures_mem : ∀ {ds : List D}, D.pures ds = true → ∀ d ∈ ds, d.pure = true
  | [], _, _, h => by cases h
  | x :: ds, q, d, h => by
    unfold D.pures at q
    rw [Bool.and_eq_true] at q
    rcases List.mem_cons.mp h with rfl | h
    · exact q.1
    · exact pures_mem q.2 d h
theorem fin {r' : Reel} {rest : Hq} {x : D} {good : D → Prop} (ok : r'.Ok) (px : x.pure = true) (g : good x) : ∃ (r'' : Reel) (own : Hq), Reel.h r' rest = Reel.h r'' (rest ++ own) ∧ r''.Ok ∧ x.pure = true ∧ good x :=
  ⟨r', [], by rw [List.append_nil], ok, px, g⟩
abbrev IntIn (lo hi : Int) : D → Prop := fun x => ∃ z, x = .int z ∧ lo ≤ z ∧ z ≤ hi
abbrev T30 : Int := 1000000000000000000000000000000
abbrev Pow2 (a : Int) : Prop := a = 1 ∨ a = 2 ∨ a = 4 ∨ a = 8 ∨ a = 16 ∨ a = 32 ∨ a = 64
/-- a kind of a book: size and alignment -/
structure Kind (k : Int × Int) : Prop where
  s0 : 1 ≤ k.1
  s1 : k.1 ≤ T30
  a0 : 1 ≤ k.2
  a1 : k.2 ≤ 64
  ap : Pow2 k.2
def kindD (k : Int × Int) : D := .tup [.int k.1, .int k.2]
def bookD (b : List (Int × Int)) : D := .tup (b.map kindD)
abbrev BookIn (many : Nat) : D → Prop := fun x => ∃ b, x = bookD b ∧ b.length = many ∧ ∀ k ∈ b, Kind k
mutual
theorem D.under_mono {n m : Nat} (hl : n ≤ m) : ∀ d : D, d.under n = true → d.under m = true
  | .non, _ => by unfold D.under; rfl
  | .bl _, _ => by unfold D.under; rfl
  | .int _, _ => by unfold D.under; rfl
  | .str _, _ => by unfold D.under; rfl
  | .tup ds, q => by unfold D.under at q ⊢; exact D.unders_mono hl ds q
  | .lst ds, q => by unfold D.under at q ⊢; exact D.unders_mono hl ds q
  | .scr _, _ => by unfold D.under; rfl
  | .ktp _, _ => by unfold D.under; rfl
  | .kpp _, _ => by unfold D.under; rfl
  | .ref _, q => by unfold D.under at q ⊢; exact decide_eq_true (Nat.lt_of_lt_of_le (of_decide_eq_true q) hl)
  | .dct ds, q => by unfold D.under at q ⊢; exact D.unders_mono hl ds q
  | .exn _ ds, q => by unfold D.under at q ⊢; exact D.unders_mono hl ds q
  | .opq _, _ => by unfold D.under; rfl
theorem D.unders_mono {n m : Nat} (hl : n ≤ m) : ∀ ds : List D, D.unders n ds = true → D.unders m ds = true
  | [], _ => by unfold D.unders; rfl
  | d :: ds, q => by
    unfold D.unders at q ⊢
    rw [Bool.and_eq_true] at q
    rw [D.under_mono hl d q.1, D.unders_mono hl ds q.2]; rfl
end
theorem kvs_mono {κ : Type} {n m : Nat} (hl : n ≤ m) {kvs : List (κ × D)} (h : (kvs.all fun p => p.2.under n) = true) : (kvs.all fun p => p.2.under m) = true := by
  rw [List.all_eq_true] at h ⊢
  exact fun x hx => D.under_mono hl _ (h x hx)
theorem Ob.under_mono {n m : Nat} (hl : n ≤ m) : ∀ {o : Ob}, o.under n = true → o.under m = true
  | .lst ds, h => D.unders_mono hl ds h
  | .dct kvs, h => kvs_mono hl h
  | .dctT kvs, h => kvs_mono hl h
  | .dctN kvs, h => by
    have h : (kvs.all fun p => p.1.under n && p.2.under n) = true := h
    show (kvs.all fun p => p.1.under m && p.2.under m) = true
    rw [List.all_eq_true] at h ⊢
    intro x hx
    have := h x hx
    rw [Bool.and_eq_true] at this ⊢
    exact ⟨D.under_mono hl _ this.1, D.under_mono hl _ this.2⟩
  | .ins _ fs, h => kvs_mono hl h
  | .dead, _ => rfl
theorem log_small {n : Nat} (h0 : 0 < n) (h1 : n ≤ 1000000) : (n : Int).natAbs.log2 < 9000 := by
  have : Nat.log2 n ≤ Nat.log2 1000000 := by
    rw [Nat.le_log2 (by decide)]
    exact Nat.le_trans (Nat.log2_self_le (by omega)) h1
  exact Nat.lt_of_le_of_lt this (by decide +kernel)
abbrev RowIn (n : Nat) (many : Nat) : D → Prop := fun x => ∃ ns : List Int, x = .tup (ns.map .int) ∧ ns.length = many ∧ ∀ z ∈ ns, 0 ≤ z ∧ z < n
theorem cut_few {α : Type} {xs : List α} {k : Nat} (h : xs.length ≤ k) : cut xs none (some (k : Int)) = xs := by
  unfold cut
  rw [HT.sIx_none, HT.sIx_nat, List.drop_zero, Nat.min_eq_right h, Nat.sub_zero, List.take_length]
theorem ints_get {ns : List Int} {i : Nat} {d : D} (e : (ns.map D.int)[i]? = some d) : ∃ z ∈ ns, d = .int z := by
  rw [List.getElem?_map] at e
  cases q : ns[i]? with
  | none => rw [q] at e; cases e
  | some z => rw [q] at e; cases e; exact ⟨z, List.mem_of_getElem? q, rfl⟩
end FF

/-! FFLay: rows laid, by the package's defs and the laws' own. -/
namespace FF
open PySem PySem.Spec L2
/-! ### what the defs reckon -/
def upI (n s : Int) : Int := n + (0 - n) % s
def kindAt (b : List (Int × Int)) (z : Int) : Int × Int := b.getD z.toNat (1, 1)
def lastE (b : List (Int × Int)) : List Int → Int → Int
  | [], at' => at'
  | z :: r, at' => lastE b r (upI at' (kindAt b z).2 + (kindAt b z).1)
def stepI (b : List (Int × Int)) (ns : List Int) : Int := (ns.map fun z => (kindAt b z).2).foldl max 1
structure BookOk (b : List (Int × Int)) : Prop where
  len : b.length ≤ 1000
  kinds : ∀ k ∈ b, Kind k
structure RowOk (b : List (Int × Int)) (ns : List Int) : Prop where
  l0 : 0 < ns.length
  l1 : ns.length ≤ 100
  ins : ∀ z ∈ ns, 0 ≤ z ∧ z < b.length
def rowD (ns : List Int) : D := .tup (ns.map .int)
/-- a def without cells -/
theorem onExc_wp {h : Hq} {r : R (D × Hq)} {P : D × Hq → Prop} (w : Wp r P) : Wp (onExc h r) P := by
  obtain ⟨a, e, q⟩ := w
  exact ⟨a, by rw [e]; rfl, q⟩
theorem pure_def {φ : Fn} {d : Def} {args : List D} {h : Hq} {v : D} (hm : d.mode = .pure) (hn : args.length = d.nps) (ha : D.pures args = true) (hv : v.pure = true)
    (body : Wp (exB φ d.body (args.map some ++ List.replicate (d.names.length - d.nps) none) []) fun f => Wp (endOf f) fun p => thaw1 0 p.2 p.1 = some v) : Wp (runDef φ d args h) fun p => p = (v, h) := by
  unfold runDef
  rw [if_neg (by rw [hn]; simp), hm]
  show Wp (if D.pures args = true then onExc h (((exB φ d.body (args.map some ++ List.replicate (d.names.length - d.nps) none) []).bind endOf).bind (fun p => match thaw1 0 p.2 p.1 with | some y => .ok (y, h) | none => .stuck)) else .stuck) _
  rw [if_pos ha]
  refine onExc_wp ?_
  refine .bind (.bind (body.mono fun f w => w.mono fun p e => ?_))
  rw [e]
  exact .ok rfl
def whole (b : List (Int × Int)) (ns : List Int) : Int := upI (lastE b ns 0) (stepI b ns)
/-! ### how great all this can be -/
theorem beqS (x : Str) : (x == x) = true := by simp

end FF

/-! FFRooms: rooms, lacks, powers, units, by the package's defs and the laws' own. -/
namespace FF
open PySem PySem.Spec L2
/-! ### powers of 2 -/
def p2 (n : Nat) : Nat := if 0 < n ∧ n % 2 = 0 then 2 * p2 (n / 2) else 1
termination_by n
decreasing_by omega
def powI (n : Int) : Int := (p2 n.toNat : Int)
/-! ### rooms -/
def roomI (k : Int × Int) : Int := upI k.1 k.2
def lackI (k : Int × Int) : Int := roomI k - k.1
/-! ### the places with fields -/
structure RecOk (b : List (Int × Int)) (ms : List Int) : Prop where
  len : ms.length = b.length
  some' : ∃ m ∈ ms, 0 < m
  nat : ∀ m ∈ ms, 0 ≤ m ∧ m ≤ T30
/-! ### the laws' own -/
/-! ### lists in cells, behind a reel -/
mutual
theorem D.beq_self : ∀ d : D, D.beq d d = true
  | .non => by unfold D.beq; rfl
  | .bl _ => by unfold D.beq; simp
  | .int _ => by unfold D.beq; simp
  | .str _ => by unfold D.beq; simp
  | .tup ds => by unfold D.beq; exact D.beqs_self ds
  | .lst ds => by unfold D.beq; exact D.beqs_self ds
  | .scr _ => by unfold D.beq; simp
  | .ktp _ => by unfold D.beq; simp
  | .kpp _ => by unfold D.beq; simp
  | .ref _ => by unfold D.beq; simp
  | .dct ds => by unfold D.beq; exact D.beqs_self ds
  | .exn _ ds => by unfold D.beq; simp [D.beqs_self ds]
  | .opq _ => by unfold D.beq; simp
theorem D.beqs_self : ∀ ds : List D, D.beqs ds ds = true
  | [] => by unfold D.beqs; rfl
  | d :: ds => by unfold D.beqs; rw [D.beq_self d, D.beqs_self ds]; rfl
end
/-! ### a record -/
theorem e30 : (10 : Int) ^ Int.toNat 30 = T30 := by decide
abbrev RecIn (b : List (Int × Int)) : D → Prop := fun x => ∃ ms : List Int, x = rowD ms ∧ RecOk b ms
end FF

/-! FFMono: more is never less. -/
namespace FF
open PySem PySem.Spec L2
/-- sizes no less, alignments multiples -/
structure LeK (k k' : Int × Int) : Prop where
  s : k.1 ≤ k'.1
  a : k.2 ∣ k'.2
end FF

/-! FFSum: wholes of rooms, numbers of fields, things mixed. -/
namespace FF
open PySem PySem.Spec L2
/-! ### numbers of fields -/
def cnt (row : List Int) (j : Nat) : Int := ((row.filterMap fun z => if z = (j : Int) then some (1 : Int) else none).length : Nat)
/-! ### things mixed -/
abbrev ListPerm (ns : List Int) : D → Prop := fun x => ∃ ms : List Int, x = .lst (ms.map .int) ∧ ms.Perm ns
end FF

/-! FFFam: what draws, of any family of draws. -/
namespace FF
open PySem PySem.Spec L2
/-! ### trees without texts -/
mutual
def D.plainT : D → Bool
  | .non => true
  | .bl _ => true
  | .int _ => true
  | .tup ds => D.plainTs ds
  | .lst ds => D.plainTs ds
  | .ktp _ => true
  | _ => false
def D.plainTs : List D → Bool
  | [] => true
  | d :: ds => D.plainT d && D.plainTs ds
end
theorem lay_ints : ∀ ns : List Int, PyData.canLayAll0 (ns.map .int) = true ∧ PyData.depthAll (ns.map .int) = 0
  | [] => ⟨rfl, rfl⟩
  | n :: ns => by
    obtain ⟨a, b⟩ := lay_ints ns
    refine ⟨?_, ?_⟩
    · rw [List.map_cons, PyData.canLayAll0, PyData.canLay0, a]; rfl
    · rw [List.map_cons, PyData.depthAll, PyData.depth, b]; rfl
mutual
theorem plain_py : ∀ d : D, d.plainT = true → ∃ p, D.py d = some p ∧ p.canLay0 = true ∧ p.depth = d.deepn
  | .non, _ => ⟨.none, by unfold D.py; rfl, rfl, rfl⟩
  | .bl b, _ => ⟨.bool b, by unfold D.py; rfl, rfl, rfl⟩
  | .int i, _ => ⟨.int i, by unfold D.py; rfl, rfl, rfl⟩
  | .tup ds, q => by
    unfold D.plainT at q
    obtain ⟨ps, e, c, d⟩ := plains_py ds q
    exact ⟨.tuple ps, by unfold D.py; rw [e]; rfl, c, by unfold PyData.depth D.deepn; rw [d]⟩
  | .lst ds, q => by
    unfold D.plainT at q
    obtain ⟨ps, e, c, d⟩ := plains_py ds q
    exact ⟨.list ps, by unfold D.py; rw [e]; rfl, c, by unfold PyData.depth D.deepn; rw [d]⟩
  | .str _, q => by unfold D.plainT at q; cases q
  | .scr _, q => by unfold D.plainT at q; cases q
  | .ktp ns, _ => ⟨.tuple (ns.map .int), by unfold D.py; rfl, (lay_ints ns).1, by unfold PyData.depth D.deepn; rw [(lay_ints ns).2]⟩
  | .kpp _, q => by unfold D.plainT at q; cases q
  | .ref _, q => by unfold D.plainT at q; cases q
  | .dct _, q => by unfold D.plainT at q; cases q
  | .exn _ _, q => by unfold D.plainT at q; cases q
  | .opq _, q => by unfold D.plainT at q; cases q
theorem plains_py : ∀ ds : List D, D.plainTs ds = true → ∃ ps, D.pys ds = some ps ∧ PyData.canLayAll0 ps = true ∧ PyData.depthAll ps = D.deepns ds
  | [], _ => ⟨[], by unfold D.pys; rfl, rfl, rfl⟩
  | d :: ds, q => by
    unfold D.plainTs at q
    rw [Bool.and_eq_true] at q
    obtain ⟨p, e1, c1, d1⟩ := plain_py d q.1
    obtain ⟨ps, e2, c2, d2⟩ := plains_py ds q.2
    refine ⟨p :: ps, by unfold D.pys; rw [e1, e2], ?_, ?_⟩
    · unfold PyData.canLayAll0; rw [c1, c2]; rfl
    · unfold PyData.depthAll D.deepns; rw [d1, d2]
end
mutual
theorem plain_melt {g : List D → Option (List D)} {h : Hq} : ∀ d : D, d.plainT = true → D.melt g h d = some d
  | .non, _ => by unfold D.melt; rfl
  | .bl _, _ => by unfold D.melt; rfl
  | .int _, _ => by unfold D.melt; rfl
  | .tup ds, q => by unfold D.plainT at q; unfold D.melt; rw [plains_melt ds q]; rfl
  | .lst ds, q => by unfold D.plainT at q; unfold D.melt; rw [plains_melt ds q]; rfl
  | .str _, q => by unfold D.plainT at q; cases q
  | .scr _, q => by unfold D.plainT at q; cases q
  | .ktp _, _ => by unfold D.melt; rfl
  | .kpp _, q => by unfold D.plainT at q; cases q
  | .ref _, q => by unfold D.plainT at q; cases q
  | .dct _, q => by unfold D.plainT at q; cases q
  | .exn _ _, q => by unfold D.plainT at q; cases q
  | .opq _, q => by unfold D.plainT at q; cases q
theorem plains_melt {g : List D → Option (List D)} {h : Hq} : ∀ ds : List D, D.plainTs ds = true → D.melts g h ds = some ds
  | [], _ => by unfold D.melts; rfl
  | d :: ds, q => by
    unfold D.plainTs at q
    rw [Bool.and_eq_true] at q
    unfold D.melts
    rw [plain_melt d q.1, plains_melt ds q.2]
end
theorem plains_map {α : Type} {f : α → D} : ∀ {xs : List α}, (∀ x ∈ xs, (f x).plainT = true) → D.plainTs (xs.map f) = true
  | [], _ => by rw [List.map_nil]; unfold D.plainTs; rfl
  | x :: xs, h => by
    rw [List.map_cons]; unfold D.plainTs
    rw [h x List.mem_cons_self, plains_map fun y hy => h y (List.mem_cons_of_mem _ hy)]; rfl
/-! ### a family of draws -/
structure Fam where
  S : Type
  ok : S → Prop
  base : S → Hq
  n : Nat
  root : Nat
  len : ∀ s, (base s).length = n
  und : ∀ s, ok s → (base s).all (Ob.under n) = true
def Fam.h (F : Fam) (s : F.S) (rest : Hq) : Hq := F.base s ++ rest
def FUnd (F : Fam) (rest : Hq) : Prop := rest.all (Ob.under (rest.length + F.n)) = true
section
variable {F : Fam} {s : F.S} {rest : Hq}
theorem fh_len : (F.h s rest).length = rest.length + F.n := by unfold Fam.h; rw [List.length_append, F.len]; omega
theorem fh_app {x : Hq} : F.h s rest ++ x = F.h s (rest ++ x) := by unfold Fam.h; rw [List.append_assoc]
end
/-- f draws: at args it tells what ok says -/
def FDraws (F : Fam) (f : List D → Hq → R (D × Hq)) (args : List D) (good : D → Prop) : Prop := ∀ (s : F.S) (rest : Hq), F.ok s → FUnd F rest →
  Wp (f args (F.h s rest)) fun p => ∃ s', p.2 = F.h s' rest ∧ F.ok s' ∧ good p.1
def FDrawOk (F : Fam) (f : List D → Hq → R (D × Hq)) : Prop := ∀ many : Int, 0 < many → many.natAbs.log2 < 9000 → FDraws F f [.ref F.root, .int many] fun x => ∃ z, x = .int z ∧ 0 ≤ z ∧ z < many
theorem fdraw {F : Fam} {f : List D → Hq → R (D × Hq)} (hd : FDrawOk F f) {many : Int} (h0 : 0 < many) (h1 : many.natAbs.log2 < 9000) : FDraws F f [.ref F.root, .int many] fun x => ∃ z, x = .int z ∧ 0 ≤ z ∧ z < many := hd many h0 h1
/-- a def that draws: its own cells go -/
theorem ftrim {F : Fam} {φ : Fn} {d : Def} {args : List D} {good : D → Prop} {s : F.S} {rest : Hq} (hm : d.mode = .trim) (hn : args.length = d.nps) (u : FUnd F rest)
    (body : Wp (exB φ d.body (args.map some ++ List.replicate (d.names.length - d.nps) none) (F.h s rest)) fun f => Wp (endOf f) fun p => ∃ s' own x', p.2 = F.h s' (rest ++ own) ∧ F.ok s' ∧ thaw1 (rest.length + F.n) p.2 p.1 = some x' ∧ good x') :
    Wp (runDef φ d args (F.h s rest)) fun p => ∃ s', p.2 = F.h s' rest ∧ F.ok s' ∧ good p.1 := by
  unfold runDef
  rw [if_neg (by rw [hn]; simp), hm]
  refine .bind (.bind (body.mono fun f w => w.mono ?_))
  rintro ⟨x, h'⟩ ⟨s', own, x', e, ok', th, g⟩
  dsimp only at e th
  subst e
  have ht : (F.h s' (rest ++ own)).take (F.h s rest).length = F.h s' rest := by
    rw [← fh_app, fh_len, ← fh_len (s := s'), List.take_left']
    rfl
  dsimp only
  rw [fh_len, th]
  dsimp only
  rw [← fh_len (s := s), ht, if_pos ?_]
  · exact .ok ⟨s', rfl, ok', g⟩
  · rw [fh_len]
    unfold Fam.h
    rw [List.all_append, Bool.and_eq_true]
    refine ⟨?_, u⟩
    have := F.und s' ok'
    rw [List.all_eq_true] at this ⊢
    exact fun x hx => Ob.under_mono (by omega) (this x hx)
theorem fdraws_trim {F : Fam} {φ : Fn} {d : Def} {args : List D} {good : D → Prop} (hm : d.mode = .trim) (hn : args.length = d.nps)
    (body : ∀ (s : F.S) (rest : Hq), F.ok s → FUnd F rest → Wp (exB φ d.body (args.map some ++ List.replicate (d.names.length - d.nps) none) (F.h s rest)) fun f => Wp (endOf f) fun p => ∃ s' own, p.2 = F.h s' (rest ++ own) ∧ F.ok s' ∧ p.1.pure = true ∧ good p.1) : FDraws F (runDef φ d) args good :=
  fun s rest ok u => ftrim hm hn u ((body s rest ok u).mono fun f w => w.mono fun p ⟨s', own, e, ok', px, g⟩ => ⟨s', own, p.1, e, ok', thaw1_pure px, g⟩)
section
variable {F : Fam} {s : F.S} {rest : Hq} {P : D × Hq → Prop} {ds : List D}
end
/-! ### one of some things, things mixed -/
def pickDef (dr : Nat) (a b : Str) : Def := ⟨.trim, 2, [a, b], .cons (.ret (.ix (.var 1) (.call dr (.cons (.var 0) (.cons (.bi .len false (.cons (.var 1) .nil)) .nil))))) .nil⟩
def FPickOk (F : Fam) (f : List D → Hq → R (D × Hq)) : Prop := ∀ ds : List D, ds ≠ [] → ds.length ≤ 1000000 → D.pures ds = true → FDraws F f [.ref F.root, .lst ds] fun x => x ∈ ds
theorem fpick_ok {F : Fam} {φ : Fn} {dr : Nat} {a b : Str} (hd : FDrawOk F (φ dr)) : FPickOk F (runDef φ (pickDef dr a b)) := by
  intro ds h0 h1 hp
  refine fdraws_trim rfl rfl fun s rest ok u => ?_
  refine FF.x_cons ?_
  refine FF.x_ret ?_
  refine FF.x_ix ?_
  refine FF.x_var (by rfl) ?_
  refine FF.x_call ?_
  refine FF.x_acons ?_
  refine FF.x_var (by rfl) ?_
  refine FF.x_acons ?_
  refine FF.x_bi ?_
  refine FF.x_acons ?_
  refine FF.x_var (by rfl) ?_
  refine FF.x_anil ?_
  refine FF.OkO.of rfl ?_
  refine FF.x_anil ?_
  try dsimp only [List.set_cons_zero, List.set_cons_succ]
  have hl : 0 < ds.length := List.length_pos_iff.mpr h0
  refine (fdraw hd (many := ds.length) (by omega) (log_small hl h1) s rest ok u).mono ?_
  rintro ⟨x, h'⟩ ⟨s', e, ok', z, e2, z0, z1⟩
  dsimp only at e e2
  subst e; subst e2
  refine o_ixL (at_mod z0 z1) ?_
  refine FF.nxt_rt ?_
  try dsimp only [List.set_cons_zero, List.set_cons_succ]
  refine FF.end_rt ?_
  try dsimp only [List.set_cons_zero, List.set_cons_succ]
  exact ⟨s', [], by rw [List.append_nil], ok', pures_mem hp _ (List.getElem_mem _), List.getElem_mem _⟩
/-! ### a search -/
end FF

/-! FFDue: how wholes of rooms go with wholes of rows. -/
namespace FF
open PySem PySem.Spec L2
/-! ### goods of any size -/
/-! ### how great -/
/-! ### records beside one another -/
/-! ### rows by falling alignments -/
def alI (b : List (Int × Int)) (z : Int) : Int := (kindAt b z).2
structure Falls (b : List (Int × Int)) (row T F : List Int) : Prop where
  sum : ∀ f : Int → Int, (F.map f).sum = (row.map fun z => if alI b z ∈ T then f z else 0).sum
  mem : ∀ z, z ∈ F ↔ z ∈ row ∧ alI b z ∈ T
  desc : F.Pairwise fun x y => alI b y ≤ alI b x
end FF

/-! FFDeck: the decks of the laws of level books. -/
namespace FF
open PySem PySem.Spec L2
structure DeckS where
  deep : List Int
  st : Int
  cnt : Int
end FF

/-! FFPool: the pools of the laws of floors and least wholes. -/
namespace FF
open PySem PySem.Spec L2
/-! ### kinds, books, records -/
abbrev IntsIn (ok : Int → Prop) : D → Prop := fun x => ∃ ns : List Int, x = .lst (ns.map .int) ∧ ns ≠ [] ∧ ns.length ≤ 100 ∧ ∀ n ∈ ns, ok n
abbrev RecsIn (many : Nat) : D → Prop := fun x => ∃ ms : List Int, x = rowD ms ∧ ms.length = many ∧ (∃ m ∈ ms, 0 < m) ∧ ∀ m ∈ ms, 0 ≤ m ∧ m ≤ T30
end FF

/-! FFFloor: floors and shares, by the package's defs and the laws' own. -/
namespace FF
open PySem PySem.Spec L2
def pw (k : Int × Int) : Int := powI (roomI k)
/-! ### the floor -/
/-! ### shares -/
end FF

/-! FFNeed: fields that are needed. -/
namespace FF
open PySem PySem.Spec L2
/-! ### the first number that goes -/
def goesN (r g a : Int) (n : Nat) : Bool := ((n : Int) * r - g) % a == 0
def first (r g a : Int) : Nat := ((List.range 64).find? (goesN r g a)).getD 64
/-- how many of a fine kind stand behind each field of a kind -/
def behind (b : List (Int × Int)) (L z f : Int) : Nat := first (roomI (kindAt b f)) (L * (lackI (kindAt b z) / L)) (alI b z)
structure FineOk (b : List (Int × Int)) (L z f : Int) : Prop where
  hz : 0 ≤ z ∧ z < b.length
  hf : 0 ≤ f ∧ f < b.length
  pow : pw (kindAt b f) = L
  l1 : 1 ≤ L
  l2 : L ≤ 2000000000000000000000000000000
/-! ### sums over the fields -/
end FF

/-! FFEven: level books of a pool, their floors. -/
namespace FF
open PySem PySem.Spec L2
/-- M: a power of 2 -/
def PowM (M : Int) : Prop := ∃ k : Nat, M = ((2 ^ k : Nat) : Int)
structure LevelBy (M : Int) (b : List (Int × Int)) : Prop where
  pow : PowM M
  room : ∀ k ∈ b, M ∣ roomI k
  lack : ∀ k ∈ b, lackI k < M
/-! ### kinds in another order -/
structure Turned (b : List (Int × Int)) (ms : List Int) (zs : List Int) : Prop where
  perm : zs.Perm ((List.range b.length).map fun j : Nat => (j : Int))
/-! ### drawn -/
end FF

/-! FFTank: the pools with names, their books. -/
namespace FF
open PySem PySem.Spec L2
end FF

/-! FFTank2: the books of the pools with names. -/
namespace FF
open PySem PySem.Spec L2
end FF

/-! FFTank3: uneven books, books rounded up. -/
namespace FF
open PySem PySem.Spec L2
/-! ### what is at hand -/
/-! ### uneven books -/
abbrev BookAny : D → Prop := fun x => ∃ b : List (Int × Int), x = bookD b ∧ 0 < b.length ∧ b.length ≤ 6 ∧ ∀ k ∈ b, Kind k
/-! ### rounded up -/
/-! ### what is a book -/
/-! ### the plain law of rounding -/
end FF

/-! FFLayK: rows laid, the rows plain tuples. -/
namespace FF
open PySem PySem.Spec L2
def rowK (ns : List Int) : D := .ktp ns
end FF

/-! FFCount: rows that are plain tuples: drawn, mixed, counted. -/
namespace FF
open PySem PySem.Spec L2
abbrev RowKIn (n : Nat) (many : Nat) : D → Prop := fun x => ∃ ns : List Int, x = rowK ns ∧ ns.length = many ∧ ∀ z ∈ ns, 0 ≤ z ∧ z < n
end FF

/-! FFUtil: small things about lists, slices, ends. -/
namespace FF
open PySem PySem.Spec L2
end FF

/-! FFEq: == of plain values. -/
namespace FF
open PySem PySem.Spec L2
theorem pyOf_pl {d : D} {h : Hq} (pl : d.plainT = true) : pyOf h d = D.py d := by
  have : melt1 h d = some d := by
    unfold melt1 meltN D.melts
    rw [plain_melt d pl]
    unfold D.melts
    rfl
  unfold pyOf
  rw [this]; rfl
theorem shaped_pl {d : D} {p : PyData} (pl : d.plainT = true) (e : D.py d = some p) (hd : d.deepn ≤ 60) : SeqAt.shaped p = true ∧ p.depth ≤ 60 ∧ p.canLay0 = true := by
  obtain ⟨q, e1, c, dp⟩ := plain_py d pl
  rw [e] at e1
  cases e1
  refine ⟨?_, by omega, c⟩
  unfold SeqAt.shaped
  rw [c, Bool.true_and]
  exact decide_eq_true (by omega)
theorem eq_self {h : Hq} {d : D} (pl : d.plainT = true) (hd : d.deepn ≤ 60) (sc : scalEq d d = none) : eqD h d d = some true := by
  obtain ⟨p, e1, c, dp⟩ := plain_py d pl
  obtain ⟨s1, d1, c1⟩ := shaped_pl pl e1 hd
  unfold eqD
  rw [sc]
  dsimp only
  rw [pyOf_pl pl, e1]
  dsimp only
  unfold eqPy
  rw [s1]
  show some (PyData.eqv p p) = _
  rw [SeqAt.eqv_refl p c1]
end FF

/-! FFTexts: texts of books and records, there and back. -/
namespace FF
open PySem PySem.Spec L2 TL
/-! ### decimals -/
abbrev numS (n : Int) : Str := Str.ofString (toString n)
abbrev blank : Str := " "
abbrev stroke : Str := "/"
/-! ### texts of books and records -/
/-! ### operators of texts -/
/-! ### the package's own -/
/-! ### the law's own -/
end FF

/-! FFLevel: level books, drawn and judged. -/
namespace FF
open PySem PySem.Spec L2
/-! ### the least pair -/
end FF

/-! FFVal: values of all kinds, judged; their texts. -/
namespace FF
open PySem PySem.Spec L2
/-! ### values -/
mutual
def vv : D → Bool
  | .non => true
  | .bl _ => true
  | .int _ => true
  | .str _ => true
  | .ktp _ => true
  | .tup ds => vvs ds
  | .lst ds => vvs ds
  | .dct ds => D.pures ds
  | .opq _ => true
  | _ => false
def vvs : List D → Bool
  | [] => true
  | d :: ds => vv d && vvs ds
end
theorem vvs_of {ds : List D} (h : ∀ d ∈ ds, vv d = true) : vvs ds = true := by
  induction ds with
  | nil => rfl
  | cons a ds ih =>
    unfold vvs
    rw [h a List.mem_cons_self, ih fun d hd => h d (List.mem_cons_of_mem _ hd)]
    rfl
mutual
theorem vv_pure : ∀ {d : D}, vv d = true → d.pure = true
  | .non, _ => rfl
  | .bl _, _ => rfl
  | .int _, _ => rfl
  | .str _, _ => rfl
  | .ktp _, _ => rfl
  | .opq _, _ => rfl
  | .tup ds, h => by unfold vv at h; unfold D.pure; exact vvs_pure h
  | .lst ds, h => by unfold vv at h; unfold D.pure; exact vvs_pure h
  | .dct _, h => by unfold vv at h; unfold D.pure; exact h
  | .kpp _, h => by simp [vv] at h
  | .scr _, h => by simp [vv] at h
  | .ref _, h => by simp [vv] at h
  | .exn _ _, h => by simp [vv] at h
theorem vvs_pure : ∀ {ds : List D}, vvs ds = true → D.pures ds = true
  | [], _ => rfl
  | d :: ds, h => by
    unfold vvs at h
    rw [Bool.and_eq_true] at h
    unfold D.pures
    rw [vv_pure h.1, vvs_pure h.2]; rfl
end
/-! ### their texts -/
def evenD : List D → Bool
  | [] => true
  | _ :: _ :: r => evenD r
  | _ => false
mutual
def D.GoodR (k : Nat) : D → Prop
  | .non => True
  | .bl _ => True
  | .int i => i.natAbs < 10 ^ k
  | .str s => ∀ c ∈ s.cps.toList, c < 16 ^ 8
  | .tup ds => D.GoodsR k ds
  | .lst ds => D.GoodsR k ds
  | .ktp ns => ∀ i ∈ ns, i.natAbs < 10 ^ k
  | .dct ds => evenD ds = true ∧ D.GoodsR k ds
  | _ => False
def D.GoodsR (k : Nat) : List D → Prop
  | [] => True
  | d :: ds => D.GoodR k d ∧ D.GoodsR k ds
end
mutual
def D.bulkR : D → Nat
  | .str s => s.cps.size
  | .tup ds => D.bulksR ds
  | .lst ds => D.bulksR ds
  | .ktp ns => ns.length
  | .dct ds => D.bulksR ds
  | _ => 0
def D.bulksR : List D → Nat
  | [] => 0
  | d :: ds => D.bulkR d + 1 + D.bulksR ds
end
mutual
def D.deepR : D → Nat
  | .tup ds => D.deepsR ds + 1
  | .lst ds => D.deepsR ds + 1
  | .ktp _ => 1
  | .dct ds => D.deepsR ds + 1
  | _ => 0
def D.deepsR : List D → Nat
  | [] => 0
  | d :: ds => max (D.deepR d) (D.deepsR ds)
end
structure PyRof (k : Nat) (d : D) (p : PyData) : Prop where
  py : D.pyR d = some p
  short : p.leavesShort (k + 1) = true
  show' : p.showable = true
  bulk : p.bulk ≤ d.bulkR
  deep : p.depth ≤ d.deepR
structure PyRsof (k : Nat) (d : List D) (p : List PyData) : Prop where
  py : D.pyRs d = some p
  len : p.length = d.length
  short : PyData.leavesShortAll (k + 1) p = true
  show' : PyData.showableAll p = true
  bulk : PyData.bulkAll p ≤ D.bulksR d
  deep : PyData.depthAll p ≤ D.deepsR d
theorem kvPairs_of {k : Nat} : ∀ (ds : List D) (qs : List PyData), evenD ds = true → qs.length = ds.length → ∃ ps, kvPairs qs = some ps ∧ PyData.leavesShortKv k ps = PyData.leavesShortAll k qs ∧ PyData.showableKv ps = PyData.showableAll qs ∧ PyData.bulkKv ps = PyData.bulkAll qs ∧ PyData.depthKv ps = PyData.depthAll qs
  | [], qs, _, l => by
    have : qs = [] := List.eq_nil_of_length_eq_zero l
    subst this
    exact ⟨[], rfl, rfl, rfl, rfl, rfl⟩
  | [_], _, e, _ => by cases e
  | a :: b :: r, qs, e, l => by
    match qs, l with
    | x :: y :: qs, l =>
      obtain ⟨ps, e1, p1, p2, p3, p4⟩ := kvPairs_of (k := k) r qs e (by simpa using l)
      refine ⟨(x, y) :: ps, by unfold kvPairs; rw [e1], ?_, ?_, ?_, ?_⟩
      · simp only [PyData.leavesShortKv, PyData.leavesShortAll, p1, Bool.and_assoc]
      · simp only [PyData.showableKv, PyData.showableAll, p2, Bool.and_assoc]
      · simp only [PyData.bulkKv, PyData.bulkAll, p3]; omega
      · simp only [PyData.depthKv, PyData.depthAll, p4]
        omega
mutual
theorem goodR_py {k : Nat} (hk : 0 < k) (hk2 : k ≤ 500) : ∀ d : D, d.GoodR k → ∃ p, PyRof k d p
  | .non, _ => ⟨.none, by unfold D.pyR; rfl, rfl, rfl, Nat.le_refl _, Nat.le_refl _⟩
  | .bl b, _ => ⟨.bool b, by unfold D.pyR; rfl, rfl, rfl, Nat.le_refl _, Nat.le_refl _⟩
  | .int i, g => by
    unfold D.GoodR at g
    have q := int_py hk hk2 g
    exact ⟨.int i, by unfold D.pyR; rfl, q.short, q.show', Nat.le_refl _, Nat.le_refl _⟩
  | .str s, g => by
    unfold D.GoodR at g
    refine ⟨.str s, by unfold D.pyR; rfl, ?_, rfl, Nat.le_refl _, Nat.le_refl _⟩
    unfold PyData.leavesShort
    exact List.all_eq_true.mpr fun c hc => decide_eq_true (g c hc)
  | .tup ds, g => by
    unfold D.GoodR at g
    obtain ⟨ps, q⟩ := goodsR_py hk hk2 ds g
    exact ⟨.tuple ps, by unfold D.pyR; rw [q.py]; rfl, q.short, q.show', q.bulk, by unfold PyData.depth D.deepR; have := q.deep; omega⟩
  | .lst ds, g => by
    unfold D.GoodR at g
    obtain ⟨ps, q⟩ := goodsR_py hk hk2 ds g
    exact ⟨.list ps, by unfold D.pyR; rw [q.py]; rfl, q.short, q.show', q.bulk, by unfold PyData.depth D.deepR; have := q.deep; omega⟩
  | .scr _, g => g.elim
  | .ktp ns, g => by
    unfold D.GoodR at g
    obtain ⟨q1, q2, q3, q4, q5⟩ := ints_py hk hk2 ns g
    refine ⟨.tuple (ns.map .int), by unfold D.pyR; rfl, q1, q2, ?_, ?_⟩
    · show PyData.bulkAll (ns.map .int) ≤ _
      unfold D.bulkR; omega
    · show PyData.depthAll (ns.map .int) + 1 ≤ _
      unfold D.deepR; omega
  | .kpp _, g => g.elim
  | .ref _, g => g.elim
  | .dct ds, g => by
    unfold D.GoodR at g
    obtain ⟨qs, q⟩ := goodsR_py hk hk2 ds g.2
    obtain ⟨ps, e, p1, p2, p3, p4⟩ := kvPairs_of ds qs g.1 q.len
    refine ⟨.dict ps, by unfold D.pyR; rw [q.py]; dsimp only; rw [e]; rfl, ?_, ?_, ?_, ?_⟩
    · show PyData.leavesShortKv (k + 1) ps = true
      rw [p1]; exact q.short
    · show PyData.showableKv ps = true
      rw [p2]; exact q.show'
    · show PyData.bulkKv ps ≤ D.bulksR ds
      rw [p3]; exact q.bulk
    · show PyData.depthKv ps + 1 ≤ D.deepsR ds + 1
      rw [p4]; have := q.deep; omega
  | .exn _ _, g => g.elim
  | .opq _, g => g.elim
theorem goodsR_py {k : Nat} (hk : 0 < k) (hk2 : k ≤ 500) : ∀ ds : List D, D.GoodsR k ds → ∃ p, PyRsof k ds p
  | [], _ => ⟨[], by unfold D.pyRs; rfl, rfl, rfl, rfl, Nat.le_refl _, Nat.le_refl _⟩
  | d :: ds, g => by
    unfold D.GoodsR at g
    obtain ⟨p, q⟩ := goodR_py hk hk2 d g.1
    obtain ⟨ps, qs⟩ := goodsR_py hk hk2 ds g.2
    refine ⟨p :: ps, by unfold D.pyRs; rw [q.py, qs.py], by rw [List.length_cons, List.length_cons, qs.len], ?_, ?_, ?_, ?_⟩
    · unfold PyData.leavesShortAll; rw [q.short, qs.short]; rfl
    · unfold PyData.showableAll; rw [q.show', qs.show']; rfl
    · unfold PyData.bulkAll D.bulksR; have := q.bulk; have := qs.bulk; omega
    · unfold PyData.depthAll D.deepsR; have := q.deep; have := qs.deep; omega
end
def D.shownR (d : D) : Str := match D.pyR d with | some p => p.shown | none => ""
theorem o_reprV {k : Nat} {d : D} {h : Hq} {P : D × Hq → Prop} (g : d.GoodR k) (hk : 7 ≤ k) (hk2 : k ≤ 500) (hb : (k + 3) * d.bulkR + (k + 1) ≤ 16777216) (hd : d.deepR ≤ 64) (p : P (.str d.shownR, h)) : OkO (biD .reprV false [d] h) P := by
  obtain ⟨q, q1⟩ := goodR_py (by omega) hk2 d g
  refine ⟨_, ?_, p⟩
  show reprVD d h = _
  unfold reprVD D.shownR
  rw [q1.py]
  have ok : showX q = true := by
    unfold showX lineOk
    rw [q1.show']
    have := PyData.shown_le_bulk (k + 1) (by omega) q q1.short
    have b := q1.bulk
    have : (k + 3) * q.bulk ≤ (k + 3) * d.bulkR := Nat.mul_le_mul_left _ b
    simp only [Bool.true_and, Bool.and_eq_true, decide_eq_true_eq]
    have e : k + 1 + 2 = k + 3 := by omega
    rw [e] at *
    exact ⟨Nat.le_trans q1.deep hd, by omega⟩
  dsimp only
  rw [if_pos ok]
mutual
theorem goodR_vv {k : Nat} : ∀ {d : D}, d.GoodR k → vv d = true
  | .non, _ => rfl
  | .bl _, _ => rfl
  | .int _, _ => rfl
  | .str _, _ => rfl
  | .ktp _, _ => rfl
  | .opq _, h => h.elim
  | .tup ds, h => by unfold D.GoodR at h; unfold vv; exact goodsR_vvs h
  | .lst ds, h => by unfold D.GoodR at h; unfold vv; exact goodsR_vvs h
  | .dct ds, h => by unfold D.GoodR at h; unfold vv; exact vvs_pure (goodsR_vvs h.2)
  | .kpp _, h => h.elim
  | .scr _, h => h.elim
  | .ref _, h => h.elim
  | .exn _ _, h => h.elim
theorem goodsR_vvs {k : Nat} : ∀ {ds : List D}, D.GoodsR k ds → vvs ds = true
  | [], _ => rfl
  | d :: ds, h => by
    unfold D.GoodsR at h
    unfold vvs
    rw [goodR_vv h.1, goodsR_vvs h.2]; rfl
end
/-- a value whose text is not too long -/
structure VF (n k : Nat) (d : D) : Prop where
  good : d.GoodR 450
  bulk : d.bulkR ≤ n
  deep : d.deepR ≤ k
theorem VF.mono {n k n' k' : Nat} {d : D} (h : VF n k d) (h1 : n ≤ n') (h2 : k ≤ k') : VF n' k' d := ⟨h.good, Nat.le_trans h.bulk h1, Nat.le_trans h.deep h2⟩
theorem VF.vv {n k : Nat} {d : D} (h : VF n k d) : vv d = true := goodR_vv h.good
theorem VF.pure {n k : Nat} {d : D} (h : VF n k d) : d.pure = true := vv_pure h.vv
theorem vf_int {i : Int} (h0 : -(10 ^ 450) < i) (h1 : i < 10 ^ 450) : VF 0 0 (.int i) := ⟨by unfold D.GoodR; omega, Nat.le_refl _, Nat.le_refl _⟩
theorem vf_non : VF 0 0 .non := ⟨trivial, Nat.le_refl _, Nat.le_refl _⟩
theorem vf_bl {b : Bool} : VF 0 0 (.bl b) := ⟨trivial, Nat.le_refl _, Nat.le_refl _⟩
theorem vf_dct0 : VF 2 1 (.dct []) := ⟨by unfold D.GoodR; exact ⟨rfl, by unfold D.GoodsR; trivial⟩, Nat.zero_le _, Nat.le_refl _⟩
theorem goodsR_of {k : Nat} : ∀ {ds : List D}, (∀ d ∈ ds, d.GoodR k) → D.GoodsR k ds
  | [], _ => by unfold D.GoodsR; trivial
  | d :: ds, h => by
    unfold D.GoodsR
    exact ⟨h d List.mem_cons_self, goodsR_of fun x hx => h x (List.mem_cons_of_mem _ hx)⟩
theorem bulksR_of {n : Nat} : ∀ {ds : List D}, (∀ d ∈ ds, d.bulkR ≤ n) → D.bulksR ds ≤ (n + 1) * ds.length
  | [], _ => Nat.zero_le _
  | d :: ds, h => by
    have := bulksR_of fun x hx => h x (List.mem_cons_of_mem _ hx)
    have := h d List.mem_cons_self
    unfold D.bulksR
    rw [List.length_cons, Nat.mul_succ]
    omega
theorem deepsR_of {n : Nat} : ∀ {ds : List D}, (∀ d ∈ ds, d.deepR ≤ n) → D.deepsR ds ≤ n
  | [], _ => Nat.zero_le _
  | d :: ds, h => by
    have := deepsR_of fun x hx => h x (List.mem_cons_of_mem _ hx)
    have := h d List.mem_cons_self
    unfold D.deepsR
    omega
theorem vf_tup {n k l : Nat} {ds : List D} (h : ∀ d ∈ ds, VF n k d) (hl : ds.length ≤ l) : VF ((n + 1) * l) (k + 1) (.tup ds) := ⟨by unfold D.GoodR; exact goodsR_of fun d hd => (h d hd).good, by
    unfold D.bulkR
    exact Nat.le_trans (bulksR_of fun d hd => (h d hd).bulk) (Nat.mul_le_mul_left _ hl), by
    unfold D.deepR
    have := deepsR_of fun d hd => (h d hd).deep
    omega⟩
theorem vf_lst {n k l : Nat} {ds : List D} (h : ∀ d ∈ ds, VF n k d) (hl : ds.length ≤ l) : VF ((n + 1) * l) (k + 1) (.lst ds) := ⟨by unfold D.GoodR; exact goodsR_of fun d hd => (h d hd).good, by
    unfold D.bulkR
    exact Nat.le_trans (bulksR_of fun d hd => (h d hd).bulk) (Nat.mul_le_mul_left _ hl), by
    unfold D.deepR
    have := deepsR_of fun d hd => (h d hd).deep
    omega⟩
theorem vf_str {s : Str} {n : Nat} (h : ∀ c ∈ s.cps.toList, c < 1114112) (hl : s.cps.size ≤ n) : VF n 0 (.str s) := ⟨by unfold D.GoodR; exact fun c hc => Nat.lt_trans (h c hc) (by decide), by unfold D.bulkR; exact hl, Nat.le_refl _⟩
theorem VF.repr {n k : Nat} {d : D} {h : Hq} {P : D × Hq → Prop} (v : VF n k d) (hn : n ≤ 30000) (hk : k ≤ 60) (p : P (.str d.shownR, h)) : OkO (biD .reprV false [d] h) P :=
  o_reprV v.good (by decide) (by decide) (by have := v.bulk; omega) (by have := v.deep; omega) p
/-! ### what judges them -/
/-! ### desks -/
end FF

/-! FFDk: the draws of the desks' laws: a dict of great cells and a state; the list of great cells is laid anew for each. -/
namespace FF
open PySem PySem.Spec L2
def dkDeckDef (c0 : Int) : Def := ⟨.live, 1, ["script", "deck", "cell", "whole"], (.cons (.set (.name 1) (.dct true (.cons (.const (.str "deep")) (.cons (.lst true .nil) (.cons (.const (.str "state")) (.cons (.bin .Add false (.bin .Add false (.const (.int 362436069)) (.const (.int c0))) (.bi .len false (.cons (.slice (.var 0) .no (.yes (.const (.int 63)))) .nil))) .nil)))))) (.cons (.for (.name 2) (.ex (.slice (.var 0) .no (.yes (.const (.int 63))))) (.cons (.ite (.cmp .GtE (.bi .abs false (.cons (.var 2) .nil)) (.bin .Pow false (.const (.int 10)) (.const (.int 18)))) (.cons (.setIx (.var 1) (.const (.str "deep")) (.bin .Add true (.lst false (.cons (.bi .abs false (.cons (.var 2) .nil)) .nil)) (.ix (.var 1) (.const (.str "deep"))))) .nil) .nil) (.cons (.set (.name 3) (.bin .Add false (.bin .Mult false (.const (.int 2)) (.bi .abs false (.cons (.var 2) .nil))) (.bi .int false (.cons (.cmp .Lt (.var 2) (.const (.int 0))) .nil)))) (.cons (.setIx (.var 1) (.const (.str "state")) (.bin .Mod false (.bi .int false (.cons (.bin .Add false (.bin .Mult false (.bin .Add false (.bin .Add false (.ix (.var 1) (.const (.str "state"))) (.var 3)) (.const (.int 1))) (.const (.int 1181783497276652981))) (.const (.int 521288629))) .nil)) (.const (.int 2305843009213693951)))) .nil)))) (.cons (.ret (.var 1)) .nil)))⟩
def R_dkdraw : Def := ⟨.trim, 2, ["deck", "many", "whole", "one", "two"], (.cons (.ite (.cmp .Lt (.var 1) (.const (.int 2))) (.cons (.ret (.const (.int 0))) .nil) .nil) (.cons (.ite (.cmp .NotEq (.ix (.var 0) (.const (.str "deep"))) (.lst false .nil)) (.cons (.set (.name 2) (.me .pop (.ix (.var 0) (.const (.str "deep"))) .nil)) (.cons (.ite (.cmp .GtE (.var 2) (.var 1)) (.cons (.expr (.me .append (.ix (.var 0) (.const (.str "deep"))) (.cons (.bin .FloorDiv false (.var 2) (.var 1)) .nil))) .nil) .nil) (.cons (.ret (.bin .Mod false (.bi .int false (.cons (.var 2) .nil)) (.var 1))) .nil))) .nil) (.cons (.set (.name 3) (.bin .Mod false (.bi .int false (.cons (.bin .Add false (.bin .Mult false (.ix (.var 0) (.const (.str "state"))) (.const (.int 1181783497276652981))) (.const (.int 88172645463325))) .nil)) (.const (.int 2305843009213693951)))) (.cons (.setIx (.var 0) (.const (.str "state")) (.var 3)) (.cons (.set (.name 4) (.bin .Mod false (.bi .int false (.cons (.bin .Add false (.bin .Add false (.bin .Mult false (.var 3) (.var 3)) (.bin .Mult false (.const (.int 374761393)) (.var 3))) (.const (.int 11))) .nil)) (.const (.int 2305843009213693921)))) (.cons (.ret (.bin .Mod false (.bi .int false (.cons (.bin .FloorDiv false (.var 4) (.const (.int 1048576))) .nil)) (.var 1))) .nil))))))⟩
structure DkS where
  deep : List Int
  st : Int
  js : List (List Int)
/-- where the great cells stand -/
def dkR (g : Nat) : Nat := if g = 0 then 0 else g + 1
def dkBase (g : Nat) (deep : List Int) (st : Int) (js : List (List Int)) : Hq :=
  match g with
  | 0 => [.lst (deep.map .int), .dct [(.inr "deep", .ref 0), (.inr "state", .int st)]]
  | g + 1 => .lst [] :: .dct [(.inr "deep", .ref (g + 2)), (.inr "state", .int st)] :: (((js.take g ++ List.replicate (g - js.length) []).map fun l : List Int => Ob.lst (l.map D.int)) ++ [.lst (deep.map .int)])
theorem dkJ_len (g : Nat) (js : List (List Int)) : (js.take g ++ List.replicate (g - js.length) []).length = g := by
  rw [List.length_append, List.length_take, List.length_replicate]
  omega
def dkF (g : Nat) : Fam where
  S := DkS
  ok := fun s => s.deep.length ≤ 64 ∧ 0 ≤ s.st ∧ s.st < 2305843009213693951
  base := fun s => dkBase g s.deep s.st s.js
  n := g + 2
  root := 1
  len := fun s => by
    cases g with
    | zero => rfl
    | succ g =>
      show (_ :: _ :: _).length = _
      rw [List.length_cons, List.length_cons, List.length_append, List.length_map, dkJ_len]
      rfl
  und := fun s _ => by
    cases g with
    | zero => simp [dkBase, Ob.under, D.under, unders_ints]
    | succ g =>
      unfold dkBase
      rw [List.all_eq_true]
      intro x hx
      rcases List.mem_cons.mp hx with rfl | hx
      · rfl
      rcases List.mem_cons.mp hx with rfl | hx
      · simp [Ob.under, D.under]
      rcases List.mem_append.mp hx with hx | hx
      · obtain ⟨l, _, rfl⟩ := List.mem_map.mp hx
        exact unders_ints _ _
      · rw [List.mem_singleton] at hx
        subst hx
        exact unders_ints _ _
theorem dk_at {g : Nat} {s : DkS} {rest : Hq} : ((dkF g).h s rest)[dkR g]? = some (.lst (s.deep.map .int)) := by
  cases g with
  | zero => rfl
  | succ g =>
    show (Ob.lst [] :: Ob.dct _ :: (_ ++ [Ob.lst (s.deep.map .int)]) ++ rest)[g + 2]? = _
    rw [List.cons_append, List.cons_append, List.getElem?_cons_succ, List.getElem?_cons_succ, List.append_assoc]
    rw [List.getElem?_append_right (by rw [List.length_map, dkJ_len]; exact Nat.le_refl _), List.length_map, dkJ_len, Nat.sub_self]
    rfl
theorem dk_set {g : Nat} {s : DkS} {rest : Hq} {ns : List Int} : ((dkF g).h s rest).set (dkR g) (.lst (ns.map .int)) = (dkF g).h ⟨ns, s.st, s.js⟩ rest := by
  cases g with
  | zero => rfl
  | succ g =>
    show (Ob.lst [] :: Ob.dct _ :: (_ ++ [Ob.lst (s.deep.map .int)]) ++ rest).set (g + 2) _ = Ob.lst [] :: Ob.dct _ :: (_ ++ [Ob.lst (ns.map .int)]) ++ rest
    rw [List.cons_append, List.cons_append, List.set_cons_succ, List.set_cons_succ, List.append_assoc]
    rw [List.set_append_right (h := by rw [List.length_map, dkJ_len]; exact Nat.le_refl _), List.length_map, dkJ_len, Nat.sub_self]
    simp only [List.cons_append, List.append_assoc, List.nil_append, List.set_cons_zero]
theorem dk_1 {g : Nat} {s : DkS} {rest : Hq} : ((dkF g).h s rest)[1]? = some (.dct [(.inr "deep", .ref (dkR g)), (.inr "state", .int s.st)]) := by
  cases g <;> rfl
theorem dk_set1 {g : Nat} {s : DkS} {rest : Hq} {z : Int} : ((dkF g).h s rest).set 1 (.dct [(.inr "deep", .ref (dkR g)), (.inr "state", .int z)]) = (dkF g).h ⟨s.deep, z, s.js⟩ rest := by
  cases g <;> rfl
theorem o_dkIx {g : Nat} {s : DkS} {rest : Hq} {P : D × Hq → Prop} (p : P (.ref (dkR g), (dkF g).h s rest)) : OkO (ixD (.ref 1) (.str "deep") ((dkF g).h s rest)) P := by
  refine ⟨_, ?_, p⟩
  simp only [ixD, dk_1]
  rfl
theorem o_dkSt {g : Nat} {s : DkS} {rest : Hq} {P : D × Hq → Prop} (p : P (.int s.st, (dkF g).h s rest)) : OkO (ixD (.ref 1) (.str "state") ((dkF g).h s rest)) P := by
  refine ⟨_, ?_, p⟩
  simp only [ixD, dk_1]
  rfl
theorem o_dkSet {g : Nat} {s : DkS} {rest : Hq} {z : Int} {P : Hq → Prop} (p : P ((dkF g).h ⟨s.deep, z, s.js⟩ rest)) : OkO (setD (.ref 1) (.str "state") (.int z) ((dkF g).h s rest)) P := by
  refine ⟨_, ?_, p⟩
  simp only [setD, dk_1]
  show some (((dkF g).h s rest).set 1 (.dct [(.inr "deep", .ref (dkR g)), (.inr "state", .int z)])) = _
  rw [dk_set1]
theorem dkdraw_ok {g : Nat} {φ : Fn} : FDrawOk (dkF g) (runDef φ R_dkdraw) := by
  intro many hm hb s rest ok u
  obtain ⟨deep, st, js⟩ := s
  obtain ⟨dl, s0, s1⟩ := ok
  dsimp only at dl s0 s1
  have em : ∀ z : Int, 0 ≤ z % many ∧ z % many < many := fun z => ⟨Int.emod_nonneg _ (by omega), Int.emod_lt_of_pos _ hm⟩
  refine ftrim (F := dkF g) (d := R_dkdraw) (args := [.ref 1, .int many]) (s := (⟨deep, st, js⟩ : DkS)) (good := fun x => ∃ z, x = .int z ∧ 0 ≤ z ∧ z < many) rfl rfl u ?_
  have fin0 : ∀ (deep : List Int) (st z : Int), deep.length ≤ 64 → 0 ≤ st → st < 2305843009213693951 → 0 ≤ z → z < many → ∃ (s' : (dkF g).S) (own : Hq) (x' : D), (dkF g).h (⟨deep, st, js⟩ : DkS) rest = (dkF g).h s' (rest ++ own) ∧ (dkF g).ok s' ∧ thaw1 (rest.length + (dkF g).n) ((dkF g).h (⟨deep, st, js⟩ : DkS) rest) (.int z) = some x' ∧ ∃ z, x' = .int z ∧ 0 ≤ z ∧ z < many :=
    fun deep st z h1 h2 h3 z0 z1 => ⟨(⟨deep, st, js⟩ : DkS), [], .int z, by rw [List.append_nil], ⟨h1, h2, h3⟩, thaw_int, _, rfl, z0, z1⟩
  refine FF.x_cons ?_
  refine FF.x_ite ?_
  refine FF.x_cmp ?_
  refine FF.x_var (by rfl) ?_
  refine FF.x_const ?_
  refine FF.OkO.of rfl ?_
  refine FF.OkO.of rfl ?_
  try dsimp only [List.set_cons_zero, List.set_cons_succ]
  refine ⟨fun c => ?_, fun c => ?_⟩
  · refine FF.x_cons ?_
    refine FF.x_ret ?_
    refine FF.x_const ?_
    refine FF.nxt_rt ?_
    try dsimp only [List.set_cons_zero, List.set_cons_succ]
    refine FF.nxt_rt ?_
    try dsimp only [List.set_cons_zero, List.set_cons_succ]
    refine FF.end_rt ?_
    try dsimp only [List.set_cons_zero, List.set_cons_succ]
    exact fin0 deep st 0 dl s0 s1 (by omega) hm
  refine FF.x_nil ?_
  refine FF.nxt_nx ?_
  try dsimp only [List.set_cons_zero, List.set_cons_succ]
  refine FF.x_cons ?_
  refine FF.x_ite ?_
  refine FF.x_cmp ?_
  refine FF.x_ix ?_
  refine FF.x_var (by rfl) ?_
  refine FF.x_const ?_
  try dsimp only [List.set_cons_zero, List.set_cons_succ]
  refine o_dkIx ?_
  refine FF.x_lst ?_
  refine FF.x_anil ?_
  refine FF.OkO.of rfl ?_
  try dsimp only [List.set_cons_zero, List.set_cons_succ]
  refine o_ne (eq_nil (ns := deep) dk_at) ?_
  refine FF.OkO.of rfl ?_
  try dsimp only [List.set_cons_zero, List.set_cons_succ]
  by_cases hne : deep = []
  · subst hne
    refine FF.Cd.ff ?_
    refine FF.x_nil ?_
    refine FF.nxt_nx ?_
    try dsimp only [List.set_cons_zero, List.set_cons_succ]
    refine FF.x_cons ?_
    refine FF.x_set ?_
    refine FF.x_bin ?_
    refine FF.x_bi ?_
    refine FF.x_acons ?_
    refine FF.x_bin ?_
    refine FF.x_bin ?_
    refine FF.x_ix ?_
    refine FF.x_var (by rfl) ?_
    refine FF.x_const ?_
    try dsimp only [List.set_cons_zero, List.set_cons_succ]
    refine o_dkSt ?_
    refine FF.x_const ?_
    try dsimp only [List.set_cons_zero, List.set_cons_succ]
    refine o_mul (mulOk_r (by decide) (by decide)) ?_
    refine FF.x_const ?_
    refine FF.OkO.of rfl ?_
    refine FF.x_anil ?_
    refine FF.OkO.of rfl ?_
    refine FF.x_const ?_
    refine FF.OkO.of rfl ?_
    refine FF.OkO.of rfl ?_
    refine FF.nxt_nx ?_
    try dsimp only [List.set_cons_zero, List.set_cons_succ]
    refine FF.x_cons ?_
    refine FF.x_setIx ?_
    refine FF.x_var (by rfl) ?_
    refine FF.x_var (by rfl) ?_
    refine FF.x_const ?_
    try dsimp only [List.set_cons_zero, List.set_cons_succ]
    have m1 := Int.emod_nonneg (st * 1181783497276652981 + 88172645463325) (show (2305843009213693951 : Int) ≠ 0 by decide)
    have m2 := Int.emod_lt_of_pos (st * 1181783497276652981 + 88172645463325) (show (0 : Int) < 2305843009213693951 by decide)
    generalize (st * 1181783497276652981 + 88172645463325) % 2305843009213693951 = one at m1 m2
    refine o_dkSet ?_
    refine FF.nxt_nx ?_
    try dsimp only [List.set_cons_zero, List.set_cons_succ]
    refine FF.x_cons ?_
    refine FF.x_set ?_
    refine FF.x_bin ?_
    refine FF.x_bi ?_
    refine FF.x_acons ?_
    refine FF.x_bin ?_
    refine FF.x_bin ?_
    refine FF.x_bin ?_
    refine FF.x_var (by rfl) ?_
    refine FF.x_var (by rfl) ?_
    try dsimp only [List.set_cons_zero, List.set_cons_succ]
    refine o_mul (mulOk_l (by omega) (by omega)) ?_
    refine FF.x_bin ?_
    refine FF.x_const ?_
    refine FF.x_var (by rfl) ?_
    refine FF.OkO.of rfl ?_
    refine FF.OkO.of rfl ?_
    refine FF.x_const ?_
    refine FF.OkO.of rfl ?_
    refine FF.x_anil ?_
    refine FF.OkO.of rfl ?_
    refine FF.x_const ?_
    refine FF.OkO.of rfl ?_
    refine FF.OkO.of rfl ?_
    refine FF.nxt_nx ?_
    try dsimp only [List.set_cons_zero, List.set_cons_succ]
    refine FF.x_cons ?_
    refine FF.x_ret ?_
    refine FF.x_bin ?_
    refine FF.x_bi ?_
    refine FF.x_acons ?_
    refine FF.x_bin ?_
    refine FF.x_var (by rfl) ?_
    refine FF.x_const ?_
    refine FF.OkO.of rfl ?_
    refine FF.x_anil ?_
    refine FF.OkO.of rfl ?_
    refine FF.x_var (by rfl) ?_
    try dsimp only [List.set_cons_zero, List.set_cons_succ]
    refine o_mod hm ?_
    refine FF.nxt_rt ?_
    try dsimp only [List.set_cons_zero, List.set_cons_succ]
    refine FF.end_rt ?_
    try dsimp only [List.set_cons_zero, List.set_cons_succ]
    exact fin0 [] one _ (by simp) m1 m2 (em _).1 (em _).2
  · obtain ⟨ds, a, ed⟩ : ∃ ds a, deep = ds ++ [a] := ⟨_, _, (List.dropLast_concat_getLast hne).symm⟩
    subst ed
    have c1 : (ds ++ [a]).isEmpty = false := by cases ds <;> rfl
    rw [c1]
    rw [List.length_append, List.length_singleton] at dl
    refine FF.Cd.tt ?_
    refine FF.x_cons ?_
    refine FF.x_set ?_
    refine FF.x_me ?_
    refine FF.x_ix ?_
    refine FF.x_var (by rfl) ?_
    refine FF.x_const ?_
    try dsimp only [List.set_cons_zero, List.set_cons_succ]
    refine o_dkIx ?_
    try dsimp only [List.set_cons_zero, List.set_cons_succ]
    refine o_kind dk_at rfl ?_
    refine FF.x_anil ?_
    try dsimp only [List.set_cons_zero, List.set_cons_succ]
    refine o_pop (ds := (ds ++ [a]).map D.int) (d := .int a) dk_at (by simp) ?_
    have hdl : ((ds ++ [a]).map D.int).dropLast = ds.map D.int := by simp
    rw [hdl, dk_set]
    refine FF.OkO.of rfl ?_
    refine FF.nxt_nx ?_
    try dsimp only [List.set_cons_zero, List.set_cons_succ]
    refine FF.x_cons ?_
    refine FF.x_ite ?_
    refine FF.x_cmp ?_
    refine FF.x_var (by rfl) ?_
    refine FF.x_var (by rfl) ?_
    refine FF.OkO.of rfl ?_
    refine FF.OkO.of rfl ?_
    try dsimp only [List.set_cons_zero, List.set_cons_succ]
    refine ⟨fun c3 => ?_, fun c3 => ?_⟩
    · refine FF.x_cons ?_
      refine FF.x_expr ?_
      refine FF.x_me ?_
      refine FF.x_ix ?_
      refine FF.x_var (by rfl) ?_
      refine FF.x_const ?_
      try dsimp only [List.set_cons_zero, List.set_cons_succ]
      refine o_dkIx ?_
      try dsimp only [List.set_cons_zero, List.set_cons_succ]
      refine o_kind dk_at rfl ?_
      refine FF.x_acons ?_
      refine FF.x_bin ?_
      refine FF.x_var (by rfl) ?_
      refine FF.x_var (by rfl) ?_
      try dsimp only [List.set_cons_zero, List.set_cons_succ]
      refine o_div hm hb ?_
      refine FF.x_anil ?_
      try dsimp only [List.set_cons_zero, List.set_cons_succ]
      refine o_app (ds := ds.map D.int) dk_at (by rw [List.length_map]; omega) ?_
      rw [show ds.map D.int ++ [D.int (a / many)] = (ds ++ [a / many]).map D.int by rw [List.map_append]; rfl, dk_set]
      refine FF.nxt_nx ?_
      try dsimp only [List.set_cons_zero, List.set_cons_succ]
      refine FF.x_nil ?_
      refine FF.nxt_nx ?_
      try dsimp only [List.set_cons_zero, List.set_cons_succ]
      refine FF.x_cons ?_
      refine FF.x_ret ?_
      refine FF.x_bin ?_
      refine FF.x_bi ?_
      refine FF.x_acons ?_
      refine FF.x_var (by rfl) ?_
      refine FF.x_anil ?_
      refine FF.OkO.of rfl ?_
      refine FF.x_var (by rfl) ?_
      try dsimp only [List.set_cons_zero, List.set_cons_succ]
      refine o_mod hm ?_
      refine FF.nxt_rt ?_
      try dsimp only [List.set_cons_zero, List.set_cons_succ]
      refine FF.nxt_rt ?_
      try dsimp only [List.set_cons_zero, List.set_cons_succ]
      refine FF.end_rt ?_
      try dsimp only [List.set_cons_zero, List.set_cons_succ]
      exact fin0 (ds ++ [a / many]) st _ (by rw [List.length_append]; simp; omega) s0 s1 (em _).1 (em _).2
    · refine FF.x_nil ?_
      refine FF.nxt_nx ?_
      try dsimp only [List.set_cons_zero, List.set_cons_succ]
      refine FF.x_cons ?_
      refine FF.x_ret ?_
      refine FF.x_bin ?_
      refine FF.x_bi ?_
      refine FF.x_acons ?_
      refine FF.x_var (by rfl) ?_
      refine FF.x_anil ?_
      refine FF.OkO.of rfl ?_
      refine FF.x_var (by rfl) ?_
      try dsimp only [List.set_cons_zero, List.set_cons_succ]
      refine o_mod hm ?_
      refine FF.nxt_rt ?_
      try dsimp only [List.set_cons_zero, List.set_cons_succ]
      refine FF.nxt_rt ?_
      try dsimp only [List.set_cons_zero, List.set_cons_succ]
      refine FF.end_rt ?_
      try dsimp only [List.set_cons_zero, List.set_cons_succ]
      exact fin0 ds st _ (by omega) s0 s1 (em _).1 (em _).2
def dkJ : Nat → List (List Int) → List Int → List (List Int)
  | 0, _, _ => []
  | g + 1, js, deep => (js.take g ++ List.replicate (g - js.length) []) ++ [deep]
theorem dk_grow {g : Nat} {s : DkS} {ns : List Int} (z : g = 0 → s.deep = []) : ((dkF g).h s [] ++ [Ob.lst (ns.map .int)]).set 1 (.dct [(.inr "deep", .ref (g + 2)), (.inr "state", .int s.st)]) = (dkF (g + 1)).h ⟨ns, s.st, dkJ g s.js s.deep⟩ [] := by
  cases g with
  | zero =>
    have e := z rfl
    obtain ⟨deep, st, js⟩ := s
    dsimp only at e
    subst e
    rfl
  | succ g =>
    have l := dkJ_len g s.js
    have e1 : ((dkJ (g + 1) s.js s.deep).take (g + 1) ++ List.replicate (g + 1 - (dkJ (g + 1) s.js s.deep).length) ([] : List Int)) = dkJ (g + 1) s.js s.deep := by
      have l2 : (dkJ (g + 1) s.js s.deep).length = g + 1 := by
        unfold dkJ
        rw [List.length_append, l]; rfl
      rw [List.take_of_length_le (by omega), l2, Nat.sub_self, List.replicate_zero, List.append_nil]
    show Ob.lst [] :: Ob.dct _ :: (_ ++ [] ++ [Ob.lst (ns.map .int)]) = Ob.lst [] :: Ob.dct _ :: ((((dkJ (g + 1) s.js s.deep).take (g + 1) ++ List.replicate (g + 1 - (dkJ (g + 1) s.js s.deep).length) ([] : List Int)).map fun l : List Int => Ob.lst (l.map D.int)) ++ [Ob.lst (ns.map .int)] ++ [])
    rw [e1]
    unfold dkJ
    simp
theorem dk_len {g : Nat} {s : DkS} : ((dkF g).h s []).length = g + 2 := (fh_len (F := dkF g) (s := s) (rest := [])).trans (by show 0 + (g + 2) = g + 2; omega)
theorem o_dkNew {g : Nat} {s : DkS} {a : Int} {P : D × Hq → Prop} (hl : s.deep.length ≤ 64) (p : P (.ref (g + 2), (dkF g).h s [] ++ [Ob.lst ((a :: s.deep).map .int)])) : OkO (binop .Add true (.lst [.int a]) (.ref (dkR g)) ((dkF g).h s [])) P := by
  refine ⟨_, ?_, p⟩
  have l : (1 + s.deep.length ≤ 16777216) := by omega
  simp [binop, addD, FF.lstOf, dk_at, mkL, lineOk, l, dk_len]
  omega
theorem o_dkGrow {g : Nat} {s : DkS} {ns : List Int} {P : Hq → Prop} (z : g = 0 → s.deep = []) (p : P ((dkF (g + 1)).h ⟨ns, s.st, dkJ g s.js s.deep⟩ [])) : OkO (setD (.ref 1) (.str "deep") (.ref (g + 2)) ((dkF g).h s [] ++ [Ob.lst (ns.map .int)])) P := by
  refine ⟨_, ?_, p⟩
  have e : ((dkF g).h s [] ++ [Ob.lst (ns.map .int)])[1]? = some (.dct [(.inr "deep", .ref (dkR g)), (.inr "state", .int s.st)]) := by
    rw [List.getElem?_append_left (by rw [dk_len]; omega)]
    exact dk_1
  simp only [setD, e]
  show some (((dkF g).h s [] ++ [Ob.lst (ns.map .int)]).set 1 (.dct [(.inr "deep", .ref (g + 2)), (.inr "state", .int s.st)])) = _
  rw [dk_grow z]
def DkDeckOk (f : List D → Hq → R (D × Hq)) : Prop := ∀ ns : List Int, ns.length ≤ 63 → Wp (f [.scr ns] []) fun p => p.1 = .ref 1 ∧ ∃ (g : Nat) (s : DkS), p.2 = (dkF g).h s [] ∧ (dkF g).ok s
theorem dkdeck_ok {φ : Fn} {c0 : Int} (h0 : 0 ≤ c0) (h1 : c0 < 100000000) : DkDeckOk (runDef φ (dkDeckDef c0)) := by
  intro ns hl
  unfold runDef
  rw [if_neg (by simp [dkDeckDef])]
  refine .bind ?_
  refine FF.x_cons ?_
  refine FF.x_set ?_
  refine FF.x_dct ?_
  refine FF.x_acons ?_
  refine FF.x_const ?_
  refine FF.x_acons ?_
  refine FF.x_lst ?_
  refine FF.x_anil ?_
  refine FF.OkO.of rfl ?_
  refine FF.x_acons ?_
  refine FF.x_const ?_
  refine FF.x_acons ?_
  refine FF.x_bin ?_
  refine FF.x_bin ?_
  refine FF.x_const ?_
  refine FF.x_const ?_
  refine FF.OkO.of rfl ?_
  refine FF.x_bi ?_
  refine FF.x_acons ?_
  refine FF.x_slice ?_
  refine FF.x_var (by rfl) ?_
  refine FF.x_no ?_
  refine FF.x_yes ?_
  refine FF.x_const ?_
  try dsimp only [List.set_cons_zero, List.set_cons_succ]
  refine ⟨63, rfl, ?_⟩
  refine FF.OkO.of rfl ?_
  refine FF.x_anil ?_
  refine FF.OkO.of rfl ?_
  refine FF.OkO.of rfl ?_
  refine FF.x_anil ?_
  refine FF.OkO.of rfl ?_
  refine FF.OkO.of rfl ?_
  refine FF.nxt_nx ?_
  try dsimp only [List.set_cons_zero, List.set_cons_succ]
  refine FF.x_cons ?_
  refine FF.x_for ?_
  refine FF.x_iex ?_
  refine FF.x_slice ?_
  refine FF.x_var (by rfl) ?_
  refine FF.x_no ?_
  refine FF.x_yes ?_
  refine FF.x_const ?_
  try dsimp only [List.set_cons_zero, List.set_cons_succ]
  have cf : cut (ns.map D.int) none (some 63) = ns.map D.int := cut_few (k := 63) (by rw [List.length_map]; exact hl)
  rw [cf]
  refine ⟨_, rfl, ?_⟩
  refine FF.OkO.of rfl ?_
  refine FF.OkO.of rfl ?_
  try dsimp only [List.set_cons_zero, List.set_cons_succ]
  rw [cf]
  refine wp_loopF (fun k s h => ∃ (d2 d3 : Option D) (g : Nat) (q : DkS), s = [some (.scr ns), some (.ref 1), d2, d3] ∧ h = (dkF g).h q [] ∧ (g = 0 → q.deep = []) ∧ q.deep.length ≤ k ∧ (0 ≤ q.st ∧ (0 < k → q.st < 2305843009213693951) ∧ q.st < 2305843009213693951)) _ 0 _ _ ⟨_, _, 0, ⟨[], 362436069 + c0 + ((ns.map D.int).length : Int), []⟩, rfl, rfl, fun _ => rfl, Nat.le_refl _, ?_⟩ ?_ ?_
  · rw [List.length_map]
    dsimp only
    omega
  · rintro i d s h e ⟨d2, d3, g, ⟨deep, st, js⟩, rfl, rfl, gz, dl, s0, -, s1⟩
    obtain ⟨z, _, rfl⟩ := ints_get e
    have hi := (List.getElem?_eq_some_iff.mp e).1
    rw [List.length_map] at hi
    dsimp only at gz dl s0 s1
    refine ⟨rfl, ?_⟩
    refine FF.x_stepL ?_
    refine FF.OkO.of rfl ?_
    refine FF.x_cons ?_
    refine FF.x_ite ?_
    refine FF.x_cmp ?_
    refine FF.x_bi ?_
    refine FF.x_acons ?_
    refine FF.x_var (by rfl) ?_
    refine FF.x_anil ?_
    refine FF.OkO.of rfl ?_
    refine FF.x_bin ?_
    refine FF.x_const ?_
    refine FF.x_const ?_
    refine FF.OkO.of rfl ?_
    refine FF.OkO.of rfl ?_
    refine FF.OkO.of rfl ?_
    try dsimp only [List.set_cons_zero, List.set_cons_succ]
    have sM := fun x : Int => Int.emod_nonneg x (show (2305843009213693951 : Int) ≠ 0 by decide)
    have sL := fun x : Int => Int.emod_lt_of_pos x (show (0 : Int) < 2305843009213693951 by decide)
    refine ⟨fun c => ?_, fun c => ?_⟩
    · refine FF.x_cons ?_
      refine FF.x_setIx ?_
      refine FF.x_bin ?_
      refine FF.x_lst ?_
      refine FF.x_acons ?_
      refine FF.x_bi ?_
      refine FF.x_acons ?_
      refine FF.x_var (by rfl) ?_
      refine FF.x_anil ?_
      refine FF.OkO.of rfl ?_
      refine FF.x_anil ?_
      refine FF.OkO.of rfl ?_
      refine FF.x_ix ?_
      refine FF.x_var (by rfl) ?_
      refine FF.x_const ?_
      try dsimp only [List.set_cons_zero, List.set_cons_succ]
      refine o_dkIx ?_
      try dsimp only [List.set_cons_zero, List.set_cons_succ]
      refine o_dkNew (by show deep.length ≤ 64; omega) ?_
      refine FF.x_var (by rfl) ?_
      refine FF.x_const ?_
      try dsimp only [List.set_cons_zero, List.set_cons_succ]
      refine o_dkGrow gz ?_
      refine FF.nxt_nx ?_
      try dsimp only [List.set_cons_zero, List.set_cons_succ]
      refine FF.x_nil ?_
      refine FF.nxt_nx ?_
      try dsimp only [List.set_cons_zero, List.set_cons_succ]
      refine FF.x_cons ?_
      refine FF.x_set ?_
      refine FF.x_bin ?_
      refine FF.x_bin ?_
      refine FF.x_const ?_
      refine FF.x_bi ?_
      refine FF.x_acons ?_
      refine FF.x_var (by rfl) ?_
      refine FF.x_anil ?_
      refine FF.OkO.of rfl ?_
      refine FF.OkO.of rfl ?_
      refine FF.x_bi ?_
      refine FF.x_acons ?_
      refine FF.x_cmp ?_
      refine FF.x_var (by rfl) ?_
      refine FF.x_const ?_
      refine FF.OkO.of rfl ?_
      refine FF.x_anil ?_
      refine FF.OkO.of rfl ?_
      refine FF.OkO.of rfl ?_
      refine FF.OkO.of rfl ?_
      refine FF.nxt_nx ?_
      try dsimp only [List.set_cons_zero, List.set_cons_succ]
      refine FF.x_cons ?_
      refine FF.x_setIx ?_
      refine FF.x_bin ?_
      refine FF.x_bi ?_
      refine FF.x_acons ?_
      refine FF.x_bin ?_
      refine FF.x_bin ?_
      refine FF.x_bin ?_
      refine FF.x_bin ?_
      refine FF.x_ix ?_
      refine FF.x_var (by rfl) ?_
      refine FF.x_const ?_
      refine FF.OkO.of rfl ?_
      refine FF.x_var (by rfl) ?_
      refine FF.OkO.of rfl ?_
      refine FF.x_const ?_
      refine FF.OkO.of rfl ?_
      refine FF.x_const ?_
      try dsimp only [List.set_cons_zero, List.set_cons_succ]
      refine o_mul (mulOk_r (by decide) (by decide)) ?_
      refine FF.x_const ?_
      refine FF.OkO.of rfl ?_
      refine FF.x_anil ?_
      refine FF.OkO.of rfl ?_
      refine FF.x_const ?_
      refine FF.OkO.of rfl ?_
      refine FF.x_var (by rfl) ?_
      refine FF.x_const ?_
      refine FF.OkO.of rfl ?_
      refine FF.nxt_nx ?_
      try dsimp only [List.set_cons_zero, List.set_cons_succ]
      refine FF.x_nil ?_
      try dsimp only [List.set_cons_zero, List.set_cons_succ]
      exact ⟨_, _, g + 1, ⟨(if z < 0 then -z else z) :: deep, _, dkJ g js deep⟩, rfl, rfl, (fun e => by cases e), by show deep.length + 1 ≤ _; omega, sM _, fun _ => sL _, sL _⟩
    · refine FF.x_nil ?_
      refine FF.nxt_nx ?_
      try dsimp only [List.set_cons_zero, List.set_cons_succ]
      refine FF.x_cons ?_
      refine FF.x_set ?_
      refine FF.x_bin ?_
      refine FF.x_bin ?_
      refine FF.x_const ?_
      refine FF.x_bi ?_
      refine FF.x_acons ?_
      refine FF.x_var (by rfl) ?_
      refine FF.x_anil ?_
      refine FF.OkO.of rfl ?_
      refine FF.OkO.of rfl ?_
      refine FF.x_bi ?_
      refine FF.x_acons ?_
      refine FF.x_cmp ?_
      refine FF.x_var (by rfl) ?_
      refine FF.x_const ?_
      refine FF.OkO.of rfl ?_
      refine FF.x_anil ?_
      refine FF.OkO.of rfl ?_
      refine FF.OkO.of rfl ?_
      refine FF.OkO.of rfl ?_
      refine FF.nxt_nx ?_
      try dsimp only [List.set_cons_zero, List.set_cons_succ]
      refine FF.x_cons ?_
      refine FF.x_setIx ?_
      refine FF.x_bin ?_
      refine FF.x_bi ?_
      refine FF.x_acons ?_
      refine FF.x_bin ?_
      refine FF.x_bin ?_
      refine FF.x_bin ?_
      refine FF.x_bin ?_
      refine FF.x_ix ?_
      refine FF.x_var (by rfl) ?_
      refine FF.x_const ?_
      try dsimp only [List.set_cons_zero, List.set_cons_succ]
      refine o_dkSt ?_
      refine FF.x_var (by rfl) ?_
      refine FF.OkO.of rfl ?_
      refine FF.x_const ?_
      refine FF.OkO.of rfl ?_
      refine FF.x_const ?_
      try dsimp only [List.set_cons_zero, List.set_cons_succ]
      refine o_mul (mulOk_r (by decide) (by decide)) ?_
      refine FF.x_const ?_
      refine FF.OkO.of rfl ?_
      refine FF.x_anil ?_
      refine FF.OkO.of rfl ?_
      refine FF.x_const ?_
      refine FF.OkO.of rfl ?_
      refine FF.x_var (by rfl) ?_
      refine FF.x_const ?_
      try dsimp only [List.set_cons_zero, List.set_cons_succ]
      refine o_dkSet ?_
      refine FF.nxt_nx ?_
      try dsimp only [List.set_cons_zero, List.set_cons_succ]
      refine FF.x_nil ?_
      try dsimp only [List.set_cons_zero, List.set_cons_succ]
      exact ⟨_, _, g, ⟨deep, _, js⟩, rfl, rfl, gz, by show deep.length ≤ _; omega, sM _, fun _ => sL _, sL _⟩
  · rintro s h ⟨d2, d3, g, q, rfl, rfl, gz, dl, s0, -, s1⟩
    refine ⟨rfl, ?_⟩
    rw [List.length_map] at dl
    refine FF.nxt_nx ?_
    try dsimp only [List.set_cons_zero, List.set_cons_succ]
    refine FF.x_cons ?_
    refine FF.x_ret ?_
    refine FF.x_var (by rfl) ?_
    refine FF.nxt_rt ?_
    try dsimp only [List.set_cons_zero, List.set_cons_succ]
    refine FF.end_rt ?_
    try dsimp only [List.set_cons_zero, List.set_cons_succ]
    exact ⟨rfl, g, q, rfl, by omega, s0, s1⟩
/-! ### drawn again and again -/
theorem wp_fdraws {F : Fam} {step : D → Hq → R (Option D × Hq)} {rest : Hq} {G : D → Prop} {Q : List D × Hq → Prop} (xs : List D) (s : F.S) (ok : F.ok s) (hl : xs.length ≤ 16777216)
    (hs : ∀ d ∈ xs, ∀ s : F.S, F.ok s → Wp (step d (F.h s rest)) fun p => (∀ y, p.1 = some y → G y) ∧ ∃ s' : F.S, p.2 = F.h s' rest ∧ F.ok s')
    (q : ∀ (ys : List D) (s' : F.S), (∀ y ∈ ys, G y) → ys.length ≤ xs.length → F.ok s' → Q (ys, F.h s' rest)) : Wp (turns [] step xs [] (F.h s rest)) Q := by
  refine wp_turns (fun k acc h => ∃ s : F.S, (∀ d ∈ acc, G d) ∧ acc.length ≤ k ∧ h = F.h s rest ∧ F.ok s) xs 0 _ _ ⟨s, (fun d hd => by cases hd), Nat.le_refl _, rfl, ok⟩ ?_ ?_
  · rintro j d acc h e ⟨s, ha, hc, rfl, ok⟩
    have jl := (List.getElem?_eq_some_iff.mp e).1
    refine ⟨rfl, by omega, ?_⟩
    refine (hs d (List.mem_of_getElem? e) s ok).mono ?_
    rintro ⟨y, h'⟩ ⟨gy, s', e', ok'⟩
    dsimp only at gy e'
    subst e'
    cases y with
    | none => exact ⟨s', ha, Nat.le_succ_of_le hc, rfl, ok'⟩
    | some y =>
      refine ⟨s', fun d hd => ?_, by show (acc ++ [y]).length ≤ _; rw [List.length_append]; simp only [List.length_cons, List.length_nil]; omega, rfl, ok'⟩
      rcases List.mem_append.mp hd with hd | hd
      · exact ha d hd
      · rw [List.mem_singleton] at hd; subst hd; exact gy _ rfl
  · rintro acc h ⟨s', ha, hc, rfl, ok'⟩
    exact ⟨rfl, q acc s' ha (by omega) ok'⟩
end FF

namespace FF.k54
open PySem PySem.Spec PyProof.Rows L2 FF
def top (i : Nat) : Stmt := PySem.Challenge.pw_fallingfields_k54_errors_of_all_classes.main.body.getD i (.Pass ⟨0, 0, 0, 0⟩)
abbrev s_q_law_deck : Stmt := top 15
def d_q_law_deck : Def := ⟨.live, 1, ["script", "deck", "cell", "whole"], (.cons (.set (.name 1) (.dct true (.cons (.const (.str "deep")) (.cons (.lst true .nil) (.cons (.const (.str "state")) (.cons (.bin .Add false (.bin .Add false (.const (.int 362436069)) (.const (.int 538542))) (.bi .len false (.cons (.slice (.var 0) .no (.yes (.const (.int 63)))) .nil))) .nil)))))) (.cons (.for (.name 2) (.ex (.slice (.var 0) .no (.yes (.const (.int 63))))) (.cons (.ite (.cmp .GtE (.bi .abs false (.cons (.var 2) .nil)) (.bin .Pow false (.const (.int 10)) (.const (.int 18)))) (.cons (.setIx (.var 1) (.const (.str "deep")) (.bin .Add true (.lst false (.cons (.bi .abs false (.cons (.var 2) .nil)) .nil)) (.ix (.var 1) (.const (.str "deep"))))) .nil) .nil) (.cons (.set (.name 3) (.bin .Add false (.bin .Mult false (.const (.int 2)) (.bi .abs false (.cons (.var 2) .nil))) (.bi .int false (.cons (.cmp .Lt (.var 2) (.const (.int 0))) .nil)))) (.cons (.setIx (.var 1) (.const (.str "state")) (.bin .Mod false (.bi .int false (.cons (.bin .Add false (.bin .Mult false (.bin .Add false (.bin .Add false (.ix (.var 1) (.const (.str "state"))) (.var 3)) (.const (.int 1))) (.const (.int 1181783497276652981))) (.const (.int 521288629))) .nil)) (.const (.int 2305843009213693951)))) .nil)))) (.cons (.ret (.var 1)) .nil)))⟩
abbrev s_q_law_made : Stmt := top 19
def d_q_law_made : Def := ⟨.pure, 3, ["way", "thing", "is_named", "made"], (.cons (.ite (.cmp .Eq (.var 0) (.const (.int 0))) (.cons (.set (.name 3) (.ife (.var 2) (.bi (.mkE "BadBook") false (.cons (.var 1) .nil)) (.bi (.mkE "BadBook") false (.cons (.var 1) .nil)))) (.cons (.ret (.tup (.cons (.var 3) (.cons (.bi (.xfld "error") false (.cons (.var 3) .nil)) .nil)))) .nil)) .nil) (.cons (.ite (.cmp .Eq (.var 0) (.const (.int 1))) (.cons (.set (.name 3) (.ife (.var 2) (.bi (.mkE "TooMany") false (.cons (.var 1) .nil)) (.bi (.mkE "TooMany") false (.cons (.var 1) .nil)))) (.cons (.ret (.tup (.cons (.var 3) (.cons (.bi (.xfld "limit") false (.cons (.var 3) .nil)) .nil)))) .nil)) .nil) (.cons (.ite (.cmp .Eq (.var 0) (.const (.int 2))) (.cons (.set (.name 3) (.ife (.var 2) (.bi (.mkE "Unlevel") false (.cons (.var 1) .nil)) (.bi (.mkE "Unlevel") false (.cons (.var 1) .nil)))) (.cons (.ret (.tup (.cons (.var 3) (.cons (.bi (.xfld "pair") false (.cons (.var 3) .nil)) .nil)))) .nil)) .nil) (.cons (.ite (.cmp .Eq (.var 0) (.const (.int 3))) (.cons (.set (.name 3) (.ife (.var 2) (.bi (.mkE "NoVersion") false (.cons (.var 1) .nil)) (.bi (.mkE "NoVersion") false (.cons (.var 1) .nil)))) (.cons (.ret (.tup (.cons (.var 3) (.cons (.bi (.xfld "given") false (.cons (.var 3) .nil)) .nil)))) .nil)) .nil) (.cons (.set (.name 3) (.ife (.var 2) (.bi (.mkE "BadLog") false (.cons (.var 1) .nil)) (.bi (.mkE "BadLog") false (.cons (.var 1) .nil)))) (.cons (.ret (.tup (.cons (.var 3) (.cons (.bi (.xfld "place") false (.cons (.var 3) .nil)) .nil)))) .nil))))))⟩
abbrev s_q_law_is_kind : Stmt := top 21
def d_q_law_is_kind : Def := ⟨.pure, 2, ["way", "made", "found", "k"], (.cons (.set (.name 2) (.lst false (.cons (.bi (.isE "BadBook") false (.cons (.var 1) .nil)) (.cons (.bi (.isE "TooMany") false (.cons (.var 1) .nil)) (.cons (.bi (.isE "Unlevel") false (.cons (.var 1) .nil)) (.cons (.bi (.isE "NoVersion") false (.cons (.var 1) .nil)) .nil)))))) (.cons (.set (.name 2) (.bin .Add false (.var 2) (.lst false (.cons (.bi (.isE "BadLog") false (.cons (.var 1) .nil)) (.cons (.bi (.isE "Unfit") false (.cons (.var 1) .nil)) (.cons (.bi (.isE "BadText") false (.cons (.var 1) .nil)) .nil)))))) (.cons (.set (.name 2) (.bin .Add false (.var 2) (.lst false (.cons (.bi (.isE "Level") false (.cons (.var 1) .nil)) (.cons (.bi (.isE "Few") false (.cons (.var 1) .nil)) (.cons (.bi (.isE "TooManyEdits") false (.cons (.var 1) .nil)) .nil)))))) (.cons (.set (.name 2) (.bin .Add false (.var 2) (.lst false (.cons (.bi (.isE "NothingToUndo") false (.cons (.var 1) .nil)) (.cons (.bi (.isE "NothingToRedo") false (.cons (.var 1) .nil)) .nil))))) (.cons (.ret (.andV (.cmp .Eq (.var 2) (.comp false (.name 3) (.range1 (.const (.int 12))) .nil (.cmp .Eq (.var 3) (.var 0)) [3])) (.andV (.bi (.isE "FieldsError") false (.cons (.var 1) .nil)) (.bi (.isE "ValueError") false (.cons (.var 1) .nil))))) .nil)))))⟩
abbrev s_q_law_draw : Stmt := top 16
def d_q_law_draw : Def := ⟨.trim, 2, ["deck", "many", "whole", "one", "two"], (.cons (.ite (.cmp .Lt (.var 1) (.const (.int 2))) (.cons (.ret (.const (.int 0))) .nil) .nil) (.cons (.ite (.cmp .NotEq (.ix (.var 0) (.const (.str "deep"))) (.lst false .nil)) (.cons (.set (.name 2) (.me .pop (.ix (.var 0) (.const (.str "deep"))) .nil)) (.cons (.ite (.cmp .GtE (.var 2) (.var 1)) (.cons (.expr (.me .append (.ix (.var 0) (.const (.str "deep"))) (.cons (.bin .FloorDiv false (.var 2) (.var 1)) .nil))) .nil) .nil) (.cons (.ret (.bin .Mod false (.bi .int false (.cons (.var 2) .nil)) (.var 1))) .nil))) .nil) (.cons (.set (.name 3) (.bin .Mod false (.bi .int false (.cons (.bin .Add false (.bin .Mult false (.ix (.var 0) (.const (.str "state"))) (.const (.int 1181783497276652981))) (.const (.int 88172645463325))) .nil)) (.const (.int 2305843009213693951)))) (.cons (.setIx (.var 0) (.const (.str "state")) (.var 3)) (.cons (.set (.name 4) (.bin .Mod false (.bi .int false (.cons (.bin .Add false (.bin .Add false (.bin .Mult false (.var 3) (.var 3)) (.bin .Mult false (.const (.int 374761393)) (.var 3))) (.const (.int 11))) .nil)) (.const (.int 2305843009213693921)))) (.cons (.ret (.bin .Mod false (.bi .int false (.cons (.bin .FloorDiv false (.var 4) (.const (.int 1048576))) .nil)) (.var 1))) .nil))))))⟩
abbrev s_q_law_pick : Stmt := top 17
def d_q_law_pick : Def := ⟨.trim, 2, ["deck", "some"], (.cons (.ret (.ix (.var 1) (.call 68 (.cons (.var 0) (.cons (.bi .len false (.cons (.var 1) .nil)) .nil))))) .nil)⟩
abbrev s_q_law_any : Stmt := top 18
def d_q_law_any : Def := ⟨.trim, 2, ["deck", "deep", "way", "plain", "inner", "turn"], (.cons (.set (.name 2) (.call 68 (.cons (.var 0) (.cons (.ife (.cmp .Gt (.var 1) (.const (.int 0))) (.const (.int 13)) (.const (.int 9))) .nil)))) (.cons (.ite (.cmp .Lt (.var 2) (.const (.int 9))) (.cons (.set (.name 3) (.lst false (.cons (.const .non) (.cons (.const (.bl true)) (.cons (.const (.bl false)) (.cons (.const (.int 0)) (.cons (.const (.int 1)) (.cons (.neg (.const (.int 1))) (.cons (.bin .Pow false (.const (.int 10)) (.const (.int 60))) (.cons (.bin .Mult false (.neg (.bin .Pow false (.const (.int 10)) (.const (.int 60)))) (.bin .Pow false (.const (.int 10)) (.const (.int 60)))) (.cons (.const (.str "")) (.cons (.const (.str "a")) (.cons (.bin .Mult false (.const (.str "x\n")) (.const (.int 40))) (.cons (.tup .nil) (.cons (.lst false .nil) (.cons (.const (.dct [])) (.cons (.tup (.cons (.const (.int 4)) (.cons (.const (.int 4)) .nil))) .nil))))))))))))))))) (.cons (.ret (.call 69 (.cons (.var 0) (.cons (.bin .Add false (.var 3) (.lst false (.cons (.lst false (.cons (.const (.int 1)) (.cons (.lst false (.cons (.const (.int 2)) .nil)) .nil))) (.cons (.dct false (.cons (.const (.str "a")) (.cons (.const (.int 1)) .nil))) (.cons (.tup (.cons (.const (.str "kind")) (.cons (.const (.int 3)) .nil))) (.cons (.const (.str "form")) (.cons (.tup (.cons (.const (.int 0)) (.cons (.const (.int 1)) .nil))) (.cons (.tup (.cons (.const (.str "kind")) (.cons (.lst false (.cons (.const (.int 0)) .nil)) .nil))) (.cons (.const (.int 256)) (.cons (.const (.int 100)) (.cons (.bin .Pow false (.const (.int 10)) (.const (.int 30))) .nil))))))))))) .nil)))) .nil)) .nil) (.cons (.set (.name 4) (.comp false (.name 5) (.range1 (.call 68 (.cons (.var 0) (.cons (.const (.int 4)) .nil)))) .nil (.call 529 (.cons (.var 0) (.cons (.bin .Sub false (.var 1) (.const (.int 1))) .nil))) [5])) (.cons (.ret (.ife (.cmp .Lt (.var 2) (.const (.int 11))) (.bi .tuple false (.cons (.var 4) .nil)) (.ife (.cmp .Eq (.var 2) (.const (.int 11))) (.var 4) (.dct false (.cons (.const (.str "b")) (.cons (.var 4) .nil)))))) .nil))))⟩
abbrev s_q_law_bare : Stmt := top 20
def d_q_law_bare : Def := ⟨.pure, 1, ["way"], (.cons (.ite (.cmp .Eq (.var 0) (.const (.int 5))) (.cons (.ret (.bi (.mkE "Unfit") false .nil)) .nil) .nil) (.cons (.ite (.cmp .Eq (.var 0) (.const (.int 6))) (.cons (.ret (.bi (.mkE "BadText") false .nil)) .nil) .nil) (.cons (.ite (.cmp .Eq (.var 0) (.const (.int 7))) (.cons (.ret (.bi (.mkE "Level") false .nil)) .nil) .nil) (.cons (.ite (.cmp .Eq (.var 0) (.const (.int 8))) (.cons (.ret (.bi (.mkE "Few") false .nil)) .nil) .nil) (.cons (.ite (.cmp .Eq (.var 0) (.const (.int 9))) (.cons (.ret (.bi (.mkE "TooManyEdits") false .nil)) .nil) .nil) (.cons (.ret (.ife (.cmp .Eq (.var 0) (.const (.int 10))) (.bi (.mkE "NothingToUndo") false .nil) (.bi (.mkE "NothingToRedo") false .nil))) .nil))))))⟩
abbrev s_law : Stmt := top 22
def d_law : Def := ⟨.pure, 1, ["script", "deck", "turn", "way", "thing", "is_named", "known", "made", "held", "again", "mate"], (.cons (.set (.name 1) (.call 526 (.cons (.var 0) .nil))) (.cons (.for (.name 2) (.range1 (.const (.int 3))) (.cons (.for (.name 3) (.range1 (.const (.int 5))) (.cons (.set (.tup (.cons (.name 4) (.cons (.name 5) .nil))) (.tup (.cons (.call 529 (.cons (.var 1) (.cons (.const (.int 2)) .nil))) (.cons (.cmp .Eq (.call 68 (.cons (.var 1) (.cons (.const (.int 2)) .nil))) (.const (.int 0))) .nil)))) (.cons (.set (.name 6) (.bi .reprV false (.cons (.var 4) .nil))) (.cons (.set (.tup (.cons (.name 7) (.cons (.name 8) .nil))) (.call 527 (.cons (.var 3) (.cons (.var 4) (.cons (.var 5) .nil))))) (.cons (.set (.tup (.cons (.name 9) (.cons (.name 10) .nil))) (.call 527 (.cons (.var 3) (.cons (.var 4) (.cons (.notV (.var 5)) .nil))))) (.cons (.ite (.orV (.cmp .NotEq (.bi .reprV false (.cons (.lst false (.cons (.var 8) (.cons (.var 10) (.cons (.var 4) .nil)))) .nil)) (.bi .reprV false (.cons (.lst false (.cons (.var 4) (.cons (.var 4) (.cons (.var 4) .nil)))) .nil))) (.cmp .NotEq (.bi .reprV false (.cons (.var 4) .nil)) (.var 6))) (.cons (.ret (.const (.bl false))) .nil) .nil) (.cons (.ite (.orV (.notV (.call 528 (.cons (.var 3) (.cons (.var 7) .nil)))) (.notV (.call 528 (.cons (.var 3) (.cons (.var 9) .nil))))) (.cons (.ret (.const (.bl false))) .nil) .nil) .nil))))))) .nil)) (.cons (.for (.name 3) (.range2 (.const (.int 5)) (.const (.int 12))) (.cons (.ite (.notV (.call 528 (.cons (.var 3) (.cons (.call 530 (.cons (.var 3) .nil)) .nil)))) (.cons (.ret (.const (.bl false))) .nil) .nil) .nil)) (.cons (.ret (.notV (.const (.bl false)))) .nil))))⟩
def tbl : List (Nat × Def) := [(526, d_q_law_deck), (527, d_q_law_made), (528, d_q_law_is_kind), (68, d_q_law_draw), (69, d_q_law_pick), (529, d_q_law_any), (530, d_q_law_bare), (531, d_law)]
section
variable {P : Program} {w : World} {K : PySem.W.Frag} {mg : Str → Option Value} {base : Heap}
theorem S_q_law_deck : FnScope ["script", "deck", "cell", "whole"] ["script"] (defScope s_q_law_deck) := C8.fnScope_by (by decide +kernel)
theorem b_q_law_deck {k : Nat} {φ : Fn}  (m_len : mg "len" = none) (m_abs : mg "abs" = none) (m_int : mg "int" = none)   (f : Addr) (cdv : Value) (A : Around) (outer : List Env) (s : Shared) (H : Hp) (hgd : A.guards = some []) (hr : Room k (A.deeper (envOfC "_law_deck" (defScope s_q_law_deck) s.heap.objs.size f cdv))) :
    SB (Xb P w K mg base ["script", "deck", "cell", "whole"] "_law_deck" (defScope s_q_law_deck) f cdv A outer s H) (EK.none K) (defBody s_q_law_deck) (exB φ d_q_law_deck.body) := by
  have nd : (["script", "deck", "cell", "whole"] : List Str).Nodup := by decide +kernel
  refine FF.w_cons ?_ ?_
  refine FF.w_asg ?_ ?_ (by rfl) (by rfl) (by rfl)
  refine FF.w_dct ?_ (by rfl) (by rfl) (by rfl) (by simp) (by decide)
  refine FF.w_pcons ?_ ?_ ?_
  exact FF.w_str
  refine FF.w_lst ?_
  exact FF.w_anil
  refine FF.w_pcons ?_ ?_ ?_
  exact FF.w_str
  refine FF.w_bin ?_ ?_
  refine FF.w_bin ?_ ?_
  exact FF.w_int
  exact FF.w_int
  refine FF.w_cb FF.cb_len (by rfl) (by assumption) PySem.boot_len ?_ (by decide) (by decide) (by rfl) (by rfl)
  refine FF.w_acons ?_ ?_ (by rfl)
  refine FF.w_slice ?_ ?_ ?_
  exact FF.w_var rfl (by first | exact .inl rfl | exact .inr (.inl rfl) | exact .inr (.inr rfl)) (by decide) (by decide)
  exact FF.w_no
  refine FF.w_yes ?_
  exact FF.w_int
  exact FF.w_anil
  exact FF.w_pnil
  exact FF.sg_name (by assumption) rfl (by first | exact .inl rfl | exact .inr rfl) (by first | exact .inl rfl | exact .inr rfl)
  refine FF.w_cons ?_ ?_
  refine FF.w_for rfl PassesOwn.never ?_ ?_ ?_ (by intro _; rfl)
  refine FF.w_iex ?_
  refine FF.w_slice ?_ ?_ ?_
  exact FF.w_var rfl (by first | exact .inl rfl | exact .inr (.inl rfl) | exact .inr (.inr rfl)) (by decide) (by decide)
  exact FF.w_no
  refine FF.w_yes ?_
  exact FF.w_int
  exact FF.sg_name (by assumption) rfl (by first | exact .inl rfl | exact .inr rfl) (by first | exact .inl rfl | exact .inr rfl)
  refine FF.w_cons ?_ ?_
  refine FF.w_ite ?_ ?_ ?_
  refine FF.w_tcmp (by exact FF.un_of ‹Room _ _› (by decide)) ?_ ?_ (by rfl)
  refine FF.w_cb FF.cb_abs (by rfl) (by assumption) PyProof.Rows.boot_abs ?_ (by decide) (by decide) (by rfl) (by rfl)
  refine FF.w_acons ?_ ?_ (by rfl)
  exact FF.w_var rfl (by first | exact .inl rfl | exact .inr (.inl rfl) | exact .inr (.inr rfl)) (by decide) (by decide)
  exact FF.w_anil
  refine FF.w_bin ?_ ?_
  exact FF.w_int
  exact FF.w_int
  refine FF.w_cons ?_ ?_
  refine FF.w_setIx (by exact FF.un_of ‹Room _ _› (by decide)) ?_ ?_ ?_ (by rfl) (by rfl) (by rfl) (by intro _; rfl)
  refine FF.w_bin ?_ ?_
  refine FF.w_lst ?_
  refine FF.w_acons ?_ ?_ (by rfl)
  refine FF.w_cb FF.cb_abs (by rfl) (by assumption) PyProof.Rows.boot_abs ?_ (by decide) (by decide) (by rfl) (by rfl)
  refine FF.w_acons ?_ ?_ (by rfl)
  exact FF.w_var rfl (by first | exact .inl rfl | exact .inr (.inl rfl) | exact .inr (.inr rfl)) (by decide) (by decide)
  exact FF.w_anil
  exact FF.w_anil
  refine FF.w_ix (by exact FF.un_of ‹Room _ _› (by decide)) ?_ ?_ (fun _ _ => rfl)
  exact FF.w_var rfl (by first | exact .inl rfl | exact .inr (.inl rfl) | exact .inr (.inr rfl)) (by decide) (by decide)
  exact FF.w_str
  exact FF.w_var rfl (by first | exact .inl rfl | exact .inr (.inl rfl) | exact .inr (.inr rfl)) (by decide) (by decide)
  exact FF.w_str
  exact FF.w_nil
  exact FF.w_nil
  refine FF.w_cons ?_ ?_
  refine FF.w_asg ?_ ?_ (by rfl) (by rfl) (by rfl)
  refine FF.w_bin ?_ ?_
  refine FF.w_bin ?_ ?_
  exact FF.w_int
  refine FF.w_cb FF.cb_abs (by rfl) (by assumption) PyProof.Rows.boot_abs ?_ (by decide) (by decide) (by rfl) (by rfl)
  refine FF.w_acons ?_ ?_ (by rfl)
  exact FF.w_var rfl (by first | exact .inl rfl | exact .inr (.inl rfl) | exact .inr (.inr rfl)) (by decide) (by decide)
  exact FF.w_anil
  refine FF.w_ct FF.cb_int (by rfl) (by assumption) PyProof.Rows.boot_int ?_ (by decide) (by decide) (by rfl) (by rfl)
  refine FF.w_acons ?_ ?_ (by rfl)
  refine FF.w_cmp (by exact FF.un_of ‹Room _ _› (by decide)) ?_ ?_ (by rfl)
  exact FF.w_var rfl (by first | exact .inl rfl | exact .inr (.inl rfl) | exact .inr (.inr rfl)) (by decide) (by decide)
  exact FF.w_int
  exact FF.w_anil
  exact FF.sg_name (by assumption) rfl (by first | exact .inl rfl | exact .inr rfl) (by first | exact .inl rfl | exact .inr rfl)
  refine FF.w_cons ?_ ?_
  refine FF.w_setIx (by exact FF.un_of ‹Room _ _› (by decide)) ?_ ?_ ?_ (by rfl) (by rfl) (by rfl) (by intro _; rfl)
  refine FF.w_bin ?_ ?_
  refine FF.w_ct FF.cb_int (by rfl) (by assumption) PyProof.Rows.boot_int ?_ (by decide) (by decide) (by rfl) (by rfl)
  refine FF.w_acons ?_ ?_ (by rfl)
  refine FF.w_bin ?_ ?_
  refine FF.w_bin ?_ ?_
  refine FF.w_bin ?_ ?_
  refine FF.w_bin ?_ ?_
  refine FF.w_ix (by exact FF.un_of ‹Room _ _› (by decide)) ?_ ?_ (fun _ _ => rfl)
  exact FF.w_var rfl (by first | exact .inl rfl | exact .inr (.inl rfl) | exact .inr (.inr rfl)) (by decide) (by decide)
  exact FF.w_str
  exact FF.w_var rfl (by first | exact .inl rfl | exact .inr (.inl rfl) | exact .inr (.inr rfl)) (by decide) (by decide)
  exact FF.w_int
  exact FF.w_int
  exact FF.w_int
  exact FF.w_anil
  exact FF.w_int
  exact FF.w_var rfl (by first | exact .inl rfl | exact .inr (.inl rfl) | exact .inr (.inr rfl)) (by decide) (by decide)
  exact FF.w_str
  exact FF.w_nil
  refine FF.w_cons ?_ ?_
  refine FF.w_ret ?_
  exact FF.w_var rfl (by first | exact .inl rfl | exact .inr (.inl rfl) | exact .inr (.inr rfl)) (by decide) (by decide)
  exact FF.w_nil
theorem S_q_law_made : FnScope ["way", "thing", "is_named", "made"] ["way", "thing", "is_named"] (defScope s_q_law_made) := C8.fnScope_by (by decide +kernel)
theorem b_q_law_made {k : Nat} {φ : Fn} {C_BadBook C_TooMany C_Unlevel C_NoVersion C_BadLog : Addr}    (e_BadBook : Err1 P K mg "BadBook" C_BadBook) (e_TooMany : Err1 P K mg "TooMany" C_TooMany) (e_Unlevel : Err1 P K mg "Unlevel" C_Unlevel) (e_NoVersion : Err1 P K mg "NoVersion" C_NoVersion) (e_BadLog : Err1 P K mg "BadLog" C_BadLog) (f : Addr) (cdv : Value) (A : Around) (outer : List Env) (s : Shared) (H : Hp) (hgd : A.guards = some []) (hr : Room k (A.deeper (envOfC "_law_made" (defScope s_q_law_made) s.heap.objs.size f cdv))) :
    SB (Xb P w K mg base ["way", "thing", "is_named", "made"] "_law_made" (defScope s_q_law_made) f cdv A outer s H) (EK.none K) (defBody s_q_law_made) (exB φ d_q_law_made.body) := by
  have nd : (["way", "thing", "is_named", "made"] : List Str).Nodup := by decide +kernel
  refine FF.w_cons ?_ ?_
  refine FF.w_ite ?_ ?_ ?_
  refine FF.w_tcmp (by exact FF.un_of ‹Room _ _› (by decide)) ?_ ?_ (by rfl)
  exact FF.w_var rfl (by first | exact .inl rfl | exact .inr (.inl rfl) | exact .inr (.inr rfl)) (by decide) (by decide)
  exact FF.w_int
  refine FF.w_cons ?_ ?_
  refine FF.w_asg ?_ ?_ (by rfl) (by rfl) (by rfl)
  refine FF.w_if ?_ ?_ ?_
  refine FF.w_tplain ?_ (fun _ => rfl)
  exact FF.w_var rfl (by first | exact .inl rfl | exact .inr (.inl rfl) | exact .inr (.inr rfl)) (by decide) (by decide)
  refine FF.w_mkE1K (by assumption) (by rfl) (by rfl) (by decide) (by assumption) (by rfl) (by rfl) (by rfl) ?_
  refine FF.w_kcons ?_ ?_
  exact FF.w_var rfl (by first | exact .inl rfl | exact .inr (.inl rfl) | exact .inr (.inr rfl)) (by decide) (by decide)
  exact FF.w_knil
  refine FF.w_mkE1 (by assumption) (by rfl) (by rfl) (by decide) (by assumption) (by rfl) ?_
  exact FF.w_var rfl (by first | exact .inl rfl | exact .inr (.inl rfl) | exact .inr (.inr rfl)) (by decide) (by decide)
  exact FF.sg_name (by assumption) rfl (by first | exact .inl rfl | exact .inr rfl) (by first | exact .inl rfl | exact .inr rfl)
  refine FF.w_cons ?_ ?_
  refine FF.w_ret ?_
  refine FF.w_tup ?_
  refine FF.w_acons ?_ ?_ (by rfl)
  exact FF.w_var rfl (by first | exact .inl rfl | exact .inr (.inl rfl) | exact .inr (.inr rfl)) (by decide) (by decide)
  refine FF.w_acons ?_ ?_ (by rfl)
  refine FF.w_xfld ?_ (by rfl)
  exact FF.w_var rfl (by first | exact .inl rfl | exact .inr (.inl rfl) | exact .inr (.inr rfl)) (by decide) (by decide)
  exact FF.w_anil
  exact FF.w_nil
  exact FF.w_nil
  refine FF.w_cons ?_ ?_
  refine FF.w_ite ?_ ?_ ?_
  refine FF.w_tcmp (by exact FF.un_of ‹Room _ _› (by decide)) ?_ ?_ (by rfl)
  exact FF.w_var rfl (by first | exact .inl rfl | exact .inr (.inl rfl) | exact .inr (.inr rfl)) (by decide) (by decide)
  exact FF.w_int
  refine FF.w_cons ?_ ?_
  refine FF.w_asg ?_ ?_ (by rfl) (by rfl) (by rfl)
  refine FF.w_if ?_ ?_ ?_
  refine FF.w_tplain ?_ (fun _ => rfl)
  exact FF.w_var rfl (by first | exact .inl rfl | exact .inr (.inl rfl) | exact .inr (.inr rfl)) (by decide) (by decide)
  refine FF.w_mkE1K (by assumption) (by rfl) (by rfl) (by decide) (by assumption) (by rfl) (by rfl) (by rfl) ?_
  refine FF.w_kcons ?_ ?_
  exact FF.w_var rfl (by first | exact .inl rfl | exact .inr (.inl rfl) | exact .inr (.inr rfl)) (by decide) (by decide)
  exact FF.w_knil
  refine FF.w_mkE1 (by assumption) (by rfl) (by rfl) (by decide) (by assumption) (by rfl) ?_
  exact FF.w_var rfl (by first | exact .inl rfl | exact .inr (.inl rfl) | exact .inr (.inr rfl)) (by decide) (by decide)
  exact FF.sg_name (by assumption) rfl (by first | exact .inl rfl | exact .inr rfl) (by first | exact .inl rfl | exact .inr rfl)
  refine FF.w_cons ?_ ?_
  refine FF.w_ret ?_
  refine FF.w_tup ?_
  refine FF.w_acons ?_ ?_ (by rfl)
  exact FF.w_var rfl (by first | exact .inl rfl | exact .inr (.inl rfl) | exact .inr (.inr rfl)) (by decide) (by decide)
  refine FF.w_acons ?_ ?_ (by rfl)
  refine FF.w_xfld ?_ (by rfl)
  exact FF.w_var rfl (by first | exact .inl rfl | exact .inr (.inl rfl) | exact .inr (.inr rfl)) (by decide) (by decide)
  exact FF.w_anil
  exact FF.w_nil
  exact FF.w_nil
  refine FF.w_cons ?_ ?_
  refine FF.w_ite ?_ ?_ ?_
  refine FF.w_tcmp (by exact FF.un_of ‹Room _ _› (by decide)) ?_ ?_ (by rfl)
  exact FF.w_var rfl (by first | exact .inl rfl | exact .inr (.inl rfl) | exact .inr (.inr rfl)) (by decide) (by decide)
  exact FF.w_int
  refine FF.w_cons ?_ ?_
  refine FF.w_asg ?_ ?_ (by rfl) (by rfl) (by rfl)
  refine FF.w_if ?_ ?_ ?_
  refine FF.w_tplain ?_ (fun _ => rfl)
  exact FF.w_var rfl (by first | exact .inl rfl | exact .inr (.inl rfl) | exact .inr (.inr rfl)) (by decide) (by decide)
  refine FF.w_mkE1K (by assumption) (by rfl) (by rfl) (by decide) (by assumption) (by rfl) (by rfl) (by rfl) ?_
  refine FF.w_kcons ?_ ?_
  exact FF.w_var rfl (by first | exact .inl rfl | exact .inr (.inl rfl) | exact .inr (.inr rfl)) (by decide) (by decide)
  exact FF.w_knil
  refine FF.w_mkE1 (by assumption) (by rfl) (by rfl) (by decide) (by assumption) (by rfl) ?_
  exact FF.w_var rfl (by first | exact .inl rfl | exact .inr (.inl rfl) | exact .inr (.inr rfl)) (by decide) (by decide)
  exact FF.sg_name (by assumption) rfl (by first | exact .inl rfl | exact .inr rfl) (by first | exact .inl rfl | exact .inr rfl)
  refine FF.w_cons ?_ ?_
  refine FF.w_ret ?_
  refine FF.w_tup ?_
  refine FF.w_acons ?_ ?_ (by rfl)
  exact FF.w_var rfl (by first | exact .inl rfl | exact .inr (.inl rfl) | exact .inr (.inr rfl)) (by decide) (by decide)
  refine FF.w_acons ?_ ?_ (by rfl)
  refine FF.w_xfld ?_ (by rfl)
  exact FF.w_var rfl (by first | exact .inl rfl | exact .inr (.inl rfl) | exact .inr (.inr rfl)) (by decide) (by decide)
  exact FF.w_anil
  exact FF.w_nil
  exact FF.w_nil
  refine FF.w_cons ?_ ?_
  refine FF.w_ite ?_ ?_ ?_
  refine FF.w_tcmp (by exact FF.un_of ‹Room _ _› (by decide)) ?_ ?_ (by rfl)
  exact FF.w_var rfl (by first | exact .inl rfl | exact .inr (.inl rfl) | exact .inr (.inr rfl)) (by decide) (by decide)
  exact FF.w_int
  refine FF.w_cons ?_ ?_
  refine FF.w_asg ?_ ?_ (by rfl) (by rfl) (by rfl)
  refine FF.w_if ?_ ?_ ?_
  refine FF.w_tplain ?_ (fun _ => rfl)
  exact FF.w_var rfl (by first | exact .inl rfl | exact .inr (.inl rfl) | exact .inr (.inr rfl)) (by decide) (by decide)
  refine FF.w_mkE1K (by assumption) (by rfl) (by rfl) (by decide) (by assumption) (by rfl) (by rfl) (by rfl) ?_
  refine FF.w_kcons ?_ ?_
  exact FF.w_var rfl (by first | exact .inl rfl | exact .inr (.inl rfl) | exact .inr (.inr rfl)) (by decide) (by decide)
  exact FF.w_knil
  refine FF.w_mkE1 (by assumption) (by rfl) (by rfl) (by decide) (by assumption) (by rfl) ?_
  exact FF.w_var rfl (by first | exact .inl rfl | exact .inr (.inl rfl) | exact .inr (.inr rfl)) (by decide) (by decide)
  exact FF.sg_name (by assumption) rfl (by first | exact .inl rfl | exact .inr rfl) (by first | exact .inl rfl | exact .inr rfl)
  refine FF.w_cons ?_ ?_
  refine FF.w_ret ?_
  refine FF.w_tup ?_
  refine FF.w_acons ?_ ?_ (by rfl)
  exact FF.w_var rfl (by first | exact .inl rfl | exact .inr (.inl rfl) | exact .inr (.inr rfl)) (by decide) (by decide)
  refine FF.w_acons ?_ ?_ (by rfl)
  refine FF.w_xfld ?_ (by rfl)
  exact FF.w_var rfl (by first | exact .inl rfl | exact .inr (.inl rfl) | exact .inr (.inr rfl)) (by decide) (by decide)
  exact FF.w_anil
  exact FF.w_nil
  exact FF.w_nil
  refine FF.w_cons ?_ ?_
  refine FF.w_asg ?_ ?_ (by rfl) (by rfl) (by rfl)
  refine FF.w_if ?_ ?_ ?_
  refine FF.w_tplain ?_ (fun _ => rfl)
  exact FF.w_var rfl (by first | exact .inl rfl | exact .inr (.inl rfl) | exact .inr (.inr rfl)) (by decide) (by decide)
  refine FF.w_mkE1K (by assumption) (by rfl) (by rfl) (by decide) (by assumption) (by rfl) (by rfl) (by rfl) ?_
  refine FF.w_kcons ?_ ?_
  exact FF.w_var rfl (by first | exact .inl rfl | exact .inr (.inl rfl) | exact .inr (.inr rfl)) (by decide) (by decide)
  exact FF.w_knil
  refine FF.w_mkE1 (by assumption) (by rfl) (by rfl) (by decide) (by assumption) (by rfl) ?_
  exact FF.w_var rfl (by first | exact .inl rfl | exact .inr (.inl rfl) | exact .inr (.inr rfl)) (by decide) (by decide)
  exact FF.sg_name (by assumption) rfl (by first | exact .inl rfl | exact .inr rfl) (by first | exact .inl rfl | exact .inr rfl)
  refine FF.w_cons ?_ ?_
  refine FF.w_ret ?_
  refine FF.w_tup ?_
  refine FF.w_acons ?_ ?_ (by rfl)
  exact FF.w_var rfl (by first | exact .inl rfl | exact .inr (.inl rfl) | exact .inr (.inr rfl)) (by decide) (by decide)
  refine FF.w_acons ?_ ?_ (by rfl)
  refine FF.w_xfld ?_ (by rfl)
  exact FF.w_var rfl (by first | exact .inl rfl | exact .inr (.inl rfl) | exact .inr (.inr rfl)) (by decide) (by decide)
  exact FF.w_anil
  exact FF.w_nil
theorem S_q_law_is_kind : FnScope ["way", "made", "found", "k"] ["way", "made"] (defScope s_q_law_is_kind) := C8.fnScope_by (by decide +kernel)
theorem b_q_law_is_kind {k : Nat} {φ : Fn} {C_BadBook C_TooMany C_Unlevel C_NoVersion C_BadLog C_Unfit C_BadText C_Level C_Few C_TooManyEdits C_NothingToUndo C_NothingToRedo C_FieldsError : Addr}  (m_isinstance : mg "isinstance" = none) (m_ValueError : mg "ValueError" = none) (m_range : mg "range" = none)  (mc_BadBook : mg "BadBook" = some (.ref C_BadBook)) (is_BadBook : IsEK K "BadBook" (.ref C_BadBook)) (mc_TooMany : mg "TooMany" = some (.ref C_TooMany)) (is_TooMany : IsEK K "TooMany" (.ref C_TooMany)) (mc_Unlevel : mg "Unlevel" = some (.ref C_Unlevel)) (is_Unlevel : IsEK K "Unlevel" (.ref C_Unlevel)) (mc_NoVersion : mg "NoVersion" = some (.ref C_NoVersion)) (is_NoVersion : IsEK K "NoVersion" (.ref C_NoVersion)) (mc_BadLog : mg "BadLog" = some (.ref C_BadLog)) (is_BadLog : IsEK K "BadLog" (.ref C_BadLog)) (mc_Unfit : mg "Unfit" = some (.ref C_Unfit)) (is_Unfit : IsEK K "Unfit" (.ref C_Unfit)) (mc_BadText : mg "BadText" = some (.ref C_BadText)) (is_BadText : IsEK K "BadText" (.ref C_BadText)) (mc_Level : mg "Level" = some (.ref C_Level)) (is_Level : IsEK K "Level" (.ref C_Level)) (mc_Few : mg "Few" = some (.ref C_Few)) (is_Few : IsEK K "Few" (.ref C_Few)) (mc_TooManyEdits : mg "TooManyEdits" = some (.ref C_TooManyEdits)) (is_TooManyEdits : IsEK K "TooManyEdits" (.ref C_TooManyEdits)) (mc_NothingToUndo : mg "NothingToUndo" = some (.ref C_NothingToUndo)) (is_NothingToUndo : IsEK K "NothingToUndo" (.ref C_NothingToUndo)) (mc_NothingToRedo : mg "NothingToRedo" = some (.ref C_NothingToRedo)) (is_NothingToRedo : IsEK K "NothingToRedo" (.ref C_NothingToRedo)) (is_ValueError : IsEK K "ValueError" (.type "ValueError")) (mc_FieldsError : mg "FieldsError" = some (.ref C_FieldsError)) (is_FieldsError : IsEK K "FieldsError" (.ref C_FieldsError)) (f : Addr) (cdv : Value) (A : Around) (outer : List Env) (s : Shared) (H : Hp) (hgd : A.guards = some []) (hr : Room k (A.deeper (envOfC "_law_is_kind" (defScope s_q_law_is_kind) s.heap.objs.size f cdv))) :
    SB (Xb P w K mg base ["way", "made", "found", "k"] "_law_is_kind" (defScope s_q_law_is_kind) f cdv A outer s H) (EK.none K) (defBody s_q_law_is_kind) (exB φ d_q_law_is_kind.body) := by
  have nd : (["way", "made", "found", "k"] : List Str).Nodup := by decide +kernel
  refine FF.w_cons ?_ ?_
  refine FF.w_asg ?_ ?_ (by rfl) (by rfl) (by rfl)
  refine FF.w_lst ?_
  refine FF.w_acons ?_ ?_ (by rfl)
  refine FF.w_isE (by assumption) (by assumption) (by rfl) (by assumption) (by rfl) (by decide) ?_ (by rfl)
  exact FF.w_var rfl (by first | exact .inl rfl | exact .inr (.inl rfl) | exact .inr (.inr rfl)) (by decide) (by decide)
  refine FF.w_acons ?_ ?_ (by rfl)
  refine FF.w_isE (by assumption) (by assumption) (by rfl) (by assumption) (by rfl) (by decide) ?_ (by rfl)
  exact FF.w_var rfl (by first | exact .inl rfl | exact .inr (.inl rfl) | exact .inr (.inr rfl)) (by decide) (by decide)
  refine FF.w_acons ?_ ?_ (by rfl)
  refine FF.w_isE (by assumption) (by assumption) (by rfl) (by assumption) (by rfl) (by decide) ?_ (by rfl)
  exact FF.w_var rfl (by first | exact .inl rfl | exact .inr (.inl rfl) | exact .inr (.inr rfl)) (by decide) (by decide)
  refine FF.w_acons ?_ ?_ (by rfl)
  refine FF.w_isE (by assumption) (by assumption) (by rfl) (by assumption) (by rfl) (by decide) ?_ (by rfl)
  exact FF.w_var rfl (by first | exact .inl rfl | exact .inr (.inl rfl) | exact .inr (.inr rfl)) (by decide) (by decide)
  exact FF.w_anil
  exact FF.sg_name (by assumption) rfl (by first | exact .inl rfl | exact .inr rfl) (by first | exact .inl rfl | exact .inr rfl)
  refine FF.w_cons ?_ ?_
  refine FF.w_asg ?_ ?_ (by rfl) (by rfl) (by rfl)
  refine FF.w_bin ?_ ?_
  exact FF.w_var rfl (by first | exact .inl rfl | exact .inr (.inl rfl) | exact .inr (.inr rfl)) (by decide) (by decide)
  refine FF.w_lst ?_
  refine FF.w_acons ?_ ?_ (by rfl)
  refine FF.w_isE (by assumption) (by assumption) (by rfl) (by assumption) (by rfl) (by decide) ?_ (by rfl)
  exact FF.w_var rfl (by first | exact .inl rfl | exact .inr (.inl rfl) | exact .inr (.inr rfl)) (by decide) (by decide)
  refine FF.w_acons ?_ ?_ (by rfl)
  refine FF.w_isE (by assumption) (by assumption) (by rfl) (by assumption) (by rfl) (by decide) ?_ (by rfl)
  exact FF.w_var rfl (by first | exact .inl rfl | exact .inr (.inl rfl) | exact .inr (.inr rfl)) (by decide) (by decide)
  refine FF.w_acons ?_ ?_ (by rfl)
  refine FF.w_isE (by assumption) (by assumption) (by rfl) (by assumption) (by rfl) (by decide) ?_ (by rfl)
  exact FF.w_var rfl (by first | exact .inl rfl | exact .inr (.inl rfl) | exact .inr (.inr rfl)) (by decide) (by decide)
  exact FF.w_anil
  exact FF.sg_name (by assumption) rfl (by first | exact .inl rfl | exact .inr rfl) (by first | exact .inl rfl | exact .inr rfl)
  refine FF.w_cons ?_ ?_
  refine FF.w_asg ?_ ?_ (by rfl) (by rfl) (by rfl)
  refine FF.w_bin ?_ ?_
  exact FF.w_var rfl (by first | exact .inl rfl | exact .inr (.inl rfl) | exact .inr (.inr rfl)) (by decide) (by decide)
  refine FF.w_lst ?_
  refine FF.w_acons ?_ ?_ (by rfl)
  refine FF.w_isE (by assumption) (by assumption) (by rfl) (by assumption) (by rfl) (by decide) ?_ (by rfl)
  exact FF.w_var rfl (by first | exact .inl rfl | exact .inr (.inl rfl) | exact .inr (.inr rfl)) (by decide) (by decide)
  refine FF.w_acons ?_ ?_ (by rfl)
  refine FF.w_isE (by assumption) (by assumption) (by rfl) (by assumption) (by rfl) (by decide) ?_ (by rfl)
  exact FF.w_var rfl (by first | exact .inl rfl | exact .inr (.inl rfl) | exact .inr (.inr rfl)) (by decide) (by decide)
  refine FF.w_acons ?_ ?_ (by rfl)
  refine FF.w_isE (by assumption) (by assumption) (by rfl) (by assumption) (by rfl) (by decide) ?_ (by rfl)
  exact FF.w_var rfl (by first | exact .inl rfl | exact .inr (.inl rfl) | exact .inr (.inr rfl)) (by decide) (by decide)
  exact FF.w_anil
  exact FF.sg_name (by assumption) rfl (by first | exact .inl rfl | exact .inr rfl) (by first | exact .inl rfl | exact .inr rfl)
  refine FF.w_cons ?_ ?_
  refine FF.w_asg ?_ ?_ (by rfl) (by rfl) (by rfl)
  refine FF.w_bin ?_ ?_
  exact FF.w_var rfl (by first | exact .inl rfl | exact .inr (.inl rfl) | exact .inr (.inr rfl)) (by decide) (by decide)
  refine FF.w_lst ?_
  refine FF.w_acons ?_ ?_ (by rfl)
  refine FF.w_isE (by assumption) (by assumption) (by rfl) (by assumption) (by rfl) (by decide) ?_ (by rfl)
  exact FF.w_var rfl (by first | exact .inl rfl | exact .inr (.inl rfl) | exact .inr (.inr rfl)) (by decide) (by decide)
  refine FF.w_acons ?_ ?_ (by rfl)
  refine FF.w_isE (by assumption) (by assumption) (by rfl) (by assumption) (by rfl) (by decide) ?_ (by rfl)
  exact FF.w_var rfl (by first | exact .inl rfl | exact .inr (.inl rfl) | exact .inr (.inr rfl)) (by decide) (by decide)
  exact FF.w_anil
  exact FF.sg_name (by assumption) rfl (by first | exact .inl rfl | exact .inr rfl) (by first | exact .inl rfl | exact .inr rfl)
  refine FF.w_cons ?_ ?_
  refine FF.w_ret ?_
  refine FF.w_and ?_ ?_
  refine FF.w_cmp (by exact FF.un_of ‹Room _ _› (by decide)) ?_ ?_ (by rfl)
  exact FF.w_var rfl (by first | exact .inl rfl | exact .inr (.inl rfl) | exact .inr (.inr rfl)) (by decide) (by decide)
  refine FF.w_comp rfl (by assumption) ?_ (by kernel_rfl) (fun _ _ _ _ _ => ?_) (fun _ _ _ _ _ => ?_) (fun _ _ _ _ _ => ?_) (by intro _; rfl) (by decide)
  refine FF.w_range1 (by rfl) (by assumption) ?_ (by rfl)
  exact FF.w_int
  exact FF.sg_name (by assumption) rfl (by first | exact .inl rfl | exact .inr rfl) (by first | exact .inl rfl | exact .inr rfl)
  exact FF.w_ifs0
  refine FF.w_cmp (by exact FF.un_of ‹Room _ _› (by decide)) ?_ ?_ (by rfl)
  exact FF.w_var rfl (by first | exact .inl rfl | exact .inr (.inl rfl) | exact .inr (.inr rfl)) (by decide) (by decide)
  exact FF.w_var rfl (by first | exact .inl rfl | exact .inr (.inl rfl) | exact .inr (.inr rfl)) (by decide) (by decide)
  refine FF.w_and ?_ ?_
  refine FF.w_isE (by assumption) (by assumption) (by rfl) (by assumption) (by rfl) (by decide) ?_ (by rfl)
  exact FF.w_var rfl (by first | exact .inl rfl | exact .inr (.inl rfl) | exact .inr (.inr rfl)) (by decide) (by decide)
  refine FF.w_one ?_
  refine FF.w_isEV (by assumption) (by assumption) (by rfl) (by assumption) (by rfl) ?_ (by rfl)
  exact FF.w_var rfl (by first | exact .inl rfl | exact .inr (.inl rfl) | exact .inr (.inr rfl)) (by decide) (by decide)
  exact FF.w_nil
theorem S_q_law_draw : FnScope ["deck", "many", "whole", "one", "two"] ["deck", "many"] (defScope s_q_law_draw) := C8.fnScope_by (by decide +kernel)
theorem b_q_law_draw {k : Nat} {φ : Fn}  (m_int : mg "int" = none)   (f : Addr) (cdv : Value) (A : Around) (outer : List Env) (s : Shared) (H : Hp) (hgd : A.guards = some []) (hr : Room k (A.deeper (envOfC "_law_draw" (defScope s_q_law_draw) s.heap.objs.size f cdv))) :
    SB (Xb P w K mg base ["deck", "many", "whole", "one", "two"] "_law_draw" (defScope s_q_law_draw) f cdv A outer s H) (EK.none K) (defBody s_q_law_draw) (exB φ d_q_law_draw.body) := by
  have nd : (["deck", "many", "whole", "one", "two"] : List Str).Nodup := by decide +kernel
  refine FF.w_cons ?_ ?_
  refine FF.w_ite ?_ ?_ ?_
  refine FF.w_tcmp (by exact FF.un_of ‹Room _ _› (by decide)) ?_ ?_ (by rfl)
  exact FF.w_var rfl (by first | exact .inl rfl | exact .inr (.inl rfl) | exact .inr (.inr rfl)) (by decide) (by decide)
  exact FF.w_int
  refine FF.w_cons ?_ ?_
  refine FF.w_ret ?_
  exact FF.w_int
  exact FF.w_nil
  exact FF.w_nil
  refine FF.w_cons ?_ ?_
  refine FF.w_ite ?_ ?_ ?_
  refine FF.w_tcmp (by exact FF.un_of ‹Room _ _› (by decide)) ?_ ?_ (by rfl)
  refine FF.w_ix (by exact FF.un_of ‹Room _ _› (by decide)) ?_ ?_ (fun _ _ => rfl)
  exact FF.w_var rfl (by first | exact .inl rfl | exact .inr (.inl rfl) | exact .inr (.inr rfl)) (by decide) (by decide)
  exact FF.w_str
  refine FF.w_lst ?_
  exact FF.w_anil
  refine FF.w_cons ?_ ?_
  refine FF.w_asg ?_ ?_ (by rfl) (by rfl) (by rfl)
  refine FF.w_bm0 PySem.F.slot_list_pop PySem.F.type_list_pop FF.mt_popD FF.fit_pop (fun _ _ _ => rfl) ?_ (by rfl) (by rfl)
  refine FF.w_ix (by exact FF.un_of ‹Room _ _› (by decide)) ?_ ?_ (fun _ _ => rfl)
  exact FF.w_var rfl (by first | exact .inl rfl | exact .inr (.inl rfl) | exact .inr (.inr rfl)) (by decide) (by decide)
  exact FF.w_str
  exact FF.sg_name (by assumption) rfl (by first | exact .inl rfl | exact .inr rfl) (by first | exact .inl rfl | exact .inr rfl)
  refine FF.w_cons ?_ ?_
  refine FF.w_ite ?_ ?_ ?_
  refine FF.w_tcmp (by exact FF.un_of ‹Room _ _› (by decide)) ?_ ?_ (by rfl)
  exact FF.w_var rfl (by first | exact .inl rfl | exact .inr (.inl rfl) | exact .inr (.inr rfl)) (by decide) (by decide)
  exact FF.w_var rfl (by first | exact .inl rfl | exact .inr (.inl rfl) | exact .inr (.inr rfl)) (by decide) (by decide)
  refine FF.w_cons ?_ ?_
  refine FF.w_expr ?_ (by rfl)
  refine FF.w_bm PySem.F.slot_list_append PySem.F.type_list_append FF.mt_appendD FF.fit_append (fun _ _ _ => rfl) ?_ ?_ (by rfl) (by rfl) (by rfl) (by rfl) (by rfl)
  refine FF.w_ix (by exact FF.un_of ‹Room _ _› (by decide)) ?_ ?_ (fun _ _ => rfl)
  exact FF.w_var rfl (by first | exact .inl rfl | exact .inr (.inl rfl) | exact .inr (.inr rfl)) (by decide) (by decide)
  exact FF.w_str
  refine FF.w_acons ?_ ?_ (by rfl)
  refine FF.w_bin ?_ ?_
  exact FF.w_var rfl (by first | exact .inl rfl | exact .inr (.inl rfl) | exact .inr (.inr rfl)) (by decide) (by decide)
  exact FF.w_var rfl (by first | exact .inl rfl | exact .inr (.inl rfl) | exact .inr (.inr rfl)) (by decide) (by decide)
  exact FF.w_anil
  exact FF.w_nil
  exact FF.w_nil
  refine FF.w_cons ?_ ?_
  refine FF.w_ret ?_
  refine FF.w_bin ?_ ?_
  refine FF.w_ct FF.cb_int (by rfl) (by assumption) PyProof.Rows.boot_int ?_ (by decide) (by decide) (by rfl) (by rfl)
  refine FF.w_acons ?_ ?_ (by rfl)
  exact FF.w_var rfl (by first | exact .inl rfl | exact .inr (.inl rfl) | exact .inr (.inr rfl)) (by decide) (by decide)
  exact FF.w_anil
  exact FF.w_var rfl (by first | exact .inl rfl | exact .inr (.inl rfl) | exact .inr (.inr rfl)) (by decide) (by decide)
  exact FF.w_nil
  exact FF.w_nil
  refine FF.w_cons ?_ ?_
  refine FF.w_asg ?_ ?_ (by rfl) (by rfl) (by rfl)
  refine FF.w_bin ?_ ?_
  refine FF.w_ct FF.cb_int (by rfl) (by assumption) PyProof.Rows.boot_int ?_ (by decide) (by decide) (by rfl) (by rfl)
  refine FF.w_acons ?_ ?_ (by rfl)
  refine FF.w_bin ?_ ?_
  refine FF.w_bin ?_ ?_
  refine FF.w_ix (by exact FF.un_of ‹Room _ _› (by decide)) ?_ ?_ (fun _ _ => rfl)
  exact FF.w_var rfl (by first | exact .inl rfl | exact .inr (.inl rfl) | exact .inr (.inr rfl)) (by decide) (by decide)
  exact FF.w_str
  exact FF.w_int
  exact FF.w_int
  exact FF.w_anil
  exact FF.w_int
  exact FF.sg_name (by assumption) rfl (by first | exact .inl rfl | exact .inr rfl) (by first | exact .inl rfl | exact .inr rfl)
  refine FF.w_cons ?_ ?_
  refine FF.w_setIx (by exact FF.un_of ‹Room _ _› (by decide)) ?_ ?_ ?_ (by rfl) (by rfl) (by rfl) (by intro _; rfl)
  exact FF.w_var rfl (by first | exact .inl rfl | exact .inr (.inl rfl) | exact .inr (.inr rfl)) (by decide) (by decide)
  exact FF.w_var rfl (by first | exact .inl rfl | exact .inr (.inl rfl) | exact .inr (.inr rfl)) (by decide) (by decide)
  exact FF.w_str
  refine FF.w_cons ?_ ?_
  refine FF.w_asg ?_ ?_ (by rfl) (by rfl) (by rfl)
  refine FF.w_bin ?_ ?_
  refine FF.w_ct FF.cb_int (by rfl) (by assumption) PyProof.Rows.boot_int ?_ (by decide) (by decide) (by rfl) (by rfl)
  refine FF.w_acons ?_ ?_ (by rfl)
  refine FF.w_bin ?_ ?_
  refine FF.w_bin ?_ ?_
  refine FF.w_bin ?_ ?_
  exact FF.w_var rfl (by first | exact .inl rfl | exact .inr (.inl rfl) | exact .inr (.inr rfl)) (by decide) (by decide)
  exact FF.w_var rfl (by first | exact .inl rfl | exact .inr (.inl rfl) | exact .inr (.inr rfl)) (by decide) (by decide)
  refine FF.w_bin ?_ ?_
  exact FF.w_int
  exact FF.w_var rfl (by first | exact .inl rfl | exact .inr (.inl rfl) | exact .inr (.inr rfl)) (by decide) (by decide)
  exact FF.w_int
  exact FF.w_anil
  exact FF.w_int
  exact FF.sg_name (by assumption) rfl (by first | exact .inl rfl | exact .inr rfl) (by first | exact .inl rfl | exact .inr rfl)
  refine FF.w_cons ?_ ?_
  refine FF.w_ret ?_
  refine FF.w_bin ?_ ?_
  refine FF.w_ct FF.cb_int (by rfl) (by assumption) PyProof.Rows.boot_int ?_ (by decide) (by decide) (by rfl) (by rfl)
  refine FF.w_acons ?_ ?_ (by rfl)
  refine FF.w_bin ?_ ?_
  exact FF.w_var rfl (by first | exact .inl rfl | exact .inr (.inl rfl) | exact .inr (.inr rfl)) (by decide) (by decide)
  exact FF.w_int
  exact FF.w_anil
  exact FF.w_var rfl (by first | exact .inl rfl | exact .inr (.inl rfl) | exact .inr (.inr rfl)) (by decide) (by decide)
  exact FF.w_nil
theorem S_q_law_pick : FnScope ["deck", "some"] ["deck", "some"] (defScope s_q_law_pick) := C8.fnScope_by (by decide +kernel)
theorem b_q_law_pick {k : Nat} {φ : Fn} (C_q_law_draw : Cal P w K mg base k (φ 68) s_q_law_draw "_law_draw" ["deck", "many"]) (m_len : mg "len" = none)   (f : Addr) (cdv : Value) (A : Around) (outer : List Env) (s : Shared) (H : Hp) (hgd : A.guards = some []) (hr : Room k (A.deeper (envOfC "_law_pick" (defScope s_q_law_pick) s.heap.objs.size f cdv))) :
    SB (Xb P w K mg base ["deck", "some"] "_law_pick" (defScope s_q_law_pick) f cdv A outer s H) (EK.none K) (defBody s_q_law_pick) (exB φ d_q_law_pick.body) := by
  have nd : (["deck", "some"] : List Str).Nodup := by decide +kernel
  refine FF.w_cons ?_ ?_
  refine FF.w_ret ?_
  refine FF.w_ix (by exact FF.un_of ‹Room _ _› (by decide)) ?_ ?_ (fun _ _ => rfl)
  exact FF.w_var rfl (by first | exact .inl rfl | exact .inr (.inl rfl) | exact .inr (.inr rfl)) (by decide) (by decide)
  refine FF.w_call (by assumption) (by assumption) (by assumption) (by rfl) (by intro _ _ _ _ _ _; exact FF.ar2 (fun _ _ => rfl)) ?_ (by decide) (by rfl) (by rfl)
  refine FF.w_acons ?_ ?_ (by rfl)
  exact FF.w_var rfl (by first | exact .inl rfl | exact .inr (.inl rfl) | exact .inr (.inr rfl)) (by decide) (by decide)
  refine FF.w_acons ?_ ?_ (by rfl)
  refine FF.w_cb FF.cb_len (by rfl) (by assumption) PySem.boot_len ?_ (by decide) (by decide) (by rfl) (by rfl)
  refine FF.w_acons ?_ ?_ (by rfl)
  exact FF.w_var rfl (by first | exact .inl rfl | exact .inr (.inl rfl) | exact .inr (.inr rfl)) (by decide) (by decide)
  exact FF.w_anil
  exact FF.w_anil
  exact FF.w_nil
theorem S_q_law_any : FnScope ["deck", "deep", "way", "plain", "inner", "turn"] ["deck", "deep"] (defScope s_q_law_any) := C8.fnScope_by (by decide +kernel)
theorem b_q_law_any {k : Nat} {φ : Fn} (C_q_law_draw : Cal P w K mg base k (φ 68) s_q_law_draw "_law_draw" ["deck", "many"]) (C_q_law_pick : Cal P w K mg base k (φ 69) s_q_law_pick "_law_pick" ["deck", "some"]) (C_q_law_any : Cal P w K mg base k (φ 529) s_q_law_any "_law_any" ["deck", "deep"]) (m_tuple : mg "tuple" = none) (m_range : mg "range" = none)   (f : Addr) (cdv : Value) (A : Around) (outer : List Env) (s : Shared) (H : Hp) (hgd : A.guards = some []) (hr : Room k (A.deeper (envOfC "_law_any" (defScope s_q_law_any) s.heap.objs.size f cdv))) :
    SB (Xb P w K mg base ["deck", "deep", "way", "plain", "inner", "turn"] "_law_any" (defScope s_q_law_any) f cdv A outer s H) (EK.none K) (defBody s_q_law_any) (exB φ d_q_law_any.body) := by
  have nd : (["deck", "deep", "way", "plain", "inner", "turn"] : List Str).Nodup := by decide +kernel
  refine FF.w_cons ?_ ?_
  refine FF.w_asg ?_ ?_ (by rfl) (by rfl) (by rfl)
  refine FF.w_call (by assumption) (by assumption) (by assumption) (by rfl) (by intro _ _ _ _ _ _; exact FF.ar2 (fun _ _ => rfl)) ?_ (by decide) (by rfl) (by rfl)
  refine FF.w_acons ?_ ?_ (by rfl)
  exact FF.w_var rfl (by first | exact .inl rfl | exact .inr (.inl rfl) | exact .inr (.inr rfl)) (by decide) (by decide)
  refine FF.w_acons ?_ ?_ (by rfl)
  refine FF.w_if ?_ ?_ ?_
  refine FF.w_tcmp (by exact FF.un_of ‹Room _ _› (by decide)) ?_ ?_ (by rfl)
  exact FF.w_var rfl (by first | exact .inl rfl | exact .inr (.inl rfl) | exact .inr (.inr rfl)) (by decide) (by decide)
  exact FF.w_int
  exact FF.w_int
  exact FF.w_int
  exact FF.w_anil
  exact FF.sg_name (by assumption) rfl (by first | exact .inl rfl | exact .inr rfl) (by first | exact .inl rfl | exact .inr rfl)
  refine FF.w_cons ?_ ?_
  refine FF.w_ite ?_ ?_ ?_
  refine FF.w_tcmp (by exact FF.un_of ‹Room _ _› (by decide)) ?_ ?_ (by rfl)
  exact FF.w_var rfl (by first | exact .inl rfl | exact .inr (.inl rfl) | exact .inr (.inr rfl)) (by decide) (by decide)
  exact FF.w_int
  refine FF.w_cons ?_ ?_
  refine FF.w_asg ?_ ?_ (by rfl) (by rfl) (by rfl)
  refine FF.w_lst ?_
  refine FF.w_acons ?_ ?_ (by rfl)
  exact FF.w_non
  refine FF.w_acons ?_ ?_ (by rfl)
  exact FF.w_bool
  refine FF.w_acons ?_ ?_ (by rfl)
  exact FF.w_bool
  refine FF.w_acons ?_ ?_ (by rfl)
  exact FF.w_int
  refine FF.w_acons ?_ ?_ (by rfl)
  exact FF.w_int
  refine FF.w_acons ?_ ?_ (by rfl)
  refine FF.w_neg ?_
  exact FF.w_int
  refine FF.w_acons ?_ ?_ (by rfl)
  refine FF.w_bin ?_ ?_
  exact FF.w_int
  exact FF.w_int
  refine FF.w_acons ?_ ?_ (by rfl)
  refine FF.w_bin ?_ ?_
  refine FF.w_neg ?_
  refine FF.w_bin ?_ ?_
  exact FF.w_int
  exact FF.w_int
  refine FF.w_bin ?_ ?_
  exact FF.w_int
  exact FF.w_int
  refine FF.w_acons ?_ ?_ (by rfl)
  exact FF.w_str
  refine FF.w_acons ?_ ?_ (by rfl)
  exact FF.w_str
  refine FF.w_acons ?_ ?_ (by rfl)
  refine FF.w_bin ?_ ?_
  exact FF.w_str
  exact FF.w_int
  refine FF.w_acons ?_ ?_ (by rfl)
  refine FF.w_tup ?_
  exact FF.w_anil
  refine FF.w_acons ?_ ?_ (by rfl)
  refine FF.w_lst ?_
  exact FF.w_anil
  refine FF.w_acons ?_ ?_ (by rfl)
  exact FF.w_dct0
  refine FF.w_acons ?_ ?_ (by rfl)
  refine FF.w_tup ?_
  refine FF.w_acons ?_ ?_ (by rfl)
  exact FF.w_int
  refine FF.w_acons ?_ ?_ (by rfl)
  exact FF.w_int
  exact FF.w_anil
  exact FF.w_anil
  exact FF.sg_name (by assumption) rfl (by first | exact .inl rfl | exact .inr rfl) (by first | exact .inl rfl | exact .inr rfl)
  refine FF.w_cons ?_ ?_
  refine FF.w_ret ?_
  refine FF.w_call (by assumption) (by assumption) (by assumption) (by rfl) (by intro _ _ _ _ _ _; exact FF.ar2 (fun _ _ => rfl)) ?_ (by decide) (by rfl) (by rfl)
  refine FF.w_acons ?_ ?_ (by rfl)
  exact FF.w_var rfl (by first | exact .inl rfl | exact .inr (.inl rfl) | exact .inr (.inr rfl)) (by decide) (by decide)
  refine FF.w_acons ?_ ?_ (by rfl)
  refine FF.w_bin ?_ ?_
  exact FF.w_var rfl (by first | exact .inl rfl | exact .inr (.inl rfl) | exact .inr (.inr rfl)) (by decide) (by decide)
  refine FF.w_lst ?_
  refine FF.w_acons ?_ ?_ (by rfl)
  refine FF.w_lst ?_
  refine FF.w_acons ?_ ?_ (by rfl)
  exact FF.w_int
  refine FF.w_acons ?_ ?_ (by rfl)
  refine FF.w_lst ?_
  refine FF.w_acons ?_ ?_ (by rfl)
  exact FF.w_int
  exact FF.w_anil
  exact FF.w_anil
  refine FF.w_acons ?_ ?_ (by rfl)
  refine FF.w_dctF ?_ (by rfl) (by rfl) (by rfl) (by simp) (by decide)
  refine FF.w_pcons ?_ ?_ ?_
  exact FF.w_str
  exact FF.w_int
  exact FF.w_pnil
  refine FF.w_acons ?_ ?_ (by rfl)
  refine FF.w_tup ?_
  refine FF.w_acons ?_ ?_ (by rfl)
  exact FF.w_str
  refine FF.w_acons ?_ ?_ (by rfl)
  exact FF.w_int
  exact FF.w_anil
  refine FF.w_acons ?_ ?_ (by rfl)
  exact FF.w_str
  refine FF.w_acons ?_ ?_ (by rfl)
  refine FF.w_tup ?_
  refine FF.w_acons ?_ ?_ (by rfl)
  exact FF.w_int
  refine FF.w_acons ?_ ?_ (by rfl)
  exact FF.w_int
  exact FF.w_anil
  refine FF.w_acons ?_ ?_ (by rfl)
  refine FF.w_tup ?_
  refine FF.w_acons ?_ ?_ (by rfl)
  exact FF.w_str
  refine FF.w_acons ?_ ?_ (by rfl)
  refine FF.w_lst ?_
  refine FF.w_acons ?_ ?_ (by rfl)
  exact FF.w_int
  exact FF.w_anil
  exact FF.w_anil
  refine FF.w_acons ?_ ?_ (by rfl)
  exact FF.w_int
  refine FF.w_acons ?_ ?_ (by rfl)
  exact FF.w_int
  refine FF.w_acons ?_ ?_ (by rfl)
  refine FF.w_bin ?_ ?_
  exact FF.w_int
  exact FF.w_int
  exact FF.w_anil
  exact FF.w_anil
  exact FF.w_nil
  exact FF.w_nil
  refine FF.w_cons ?_ ?_
  refine FF.w_setLc rfl (by assumption) (by rfl) (by rfl) (by rfl) ?_ (by kernel_rfl) (fun _ _ _ _ _ => ?_) (fun _ _ _ _ _ => ?_) (fun _ _ _ _ _ => ?_) (by intro _; rfl) (by decide)
  refine FF.w_range1 (by rfl) (by assumption) ?_ (by rfl)
  refine FF.w_call (by assumption) (by assumption) (by assumption) (by rfl) (by intro _ _ _ _ _ _; exact FF.ar2 (fun _ _ => rfl)) ?_ (by decide) (by rfl) (by rfl)
  refine FF.w_acons ?_ ?_ (by rfl)
  exact FF.w_var rfl (by first | exact .inl rfl | exact .inr (.inl rfl) | exact .inr (.inr rfl)) (by decide) (by decide)
  refine FF.w_acons ?_ ?_ (by rfl)
  exact FF.w_int
  exact FF.w_anil
  exact FF.sg_name (by assumption) rfl (by first | exact .inl rfl | exact .inr rfl) (by first | exact .inl rfl | exact .inr rfl)
  exact FF.w_ifs0
  refine FF.w_call (by assumption) (by assumption) (by assumption) (by rfl) (by intro _ _ _ _ _ _; exact FF.ar2 (fun _ _ => rfl)) ?_ (by decide) (by rfl) (by rfl)
  refine FF.w_acons ?_ ?_ (by rfl)
  exact FF.w_var rfl (by first | exact .inl rfl | exact .inr (.inl rfl) | exact .inr (.inr rfl)) (by decide) (by decide)
  refine FF.w_acons ?_ ?_ (by rfl)
  refine FF.w_bin ?_ ?_
  exact FF.w_var rfl (by first | exact .inl rfl | exact .inr (.inl rfl) | exact .inr (.inr rfl)) (by decide) (by decide)
  exact FF.w_int
  exact FF.w_anil
  refine FF.w_cons ?_ ?_
  refine FF.w_ret ?_
  refine FF.w_if ?_ ?_ ?_
  refine FF.w_tcmp (by exact FF.un_of ‹Room _ _› (by decide)) ?_ ?_ (by rfl)
  exact FF.w_var rfl (by first | exact .inl rfl | exact .inr (.inl rfl) | exact .inr (.inr rfl)) (by decide) (by decide)
  exact FF.w_int
  refine FF.w_ct FF.cb_tuple (by rfl) (by assumption) PyProof.Rows.boot_tuple ?_ (by decide) (by decide) (by rfl) (by rfl)
  refine FF.w_acons ?_ ?_ (by rfl)
  exact FF.w_var rfl (by first | exact .inl rfl | exact .inr (.inl rfl) | exact .inr (.inr rfl)) (by decide) (by decide)
  exact FF.w_anil
  refine FF.w_if ?_ ?_ ?_
  refine FF.w_tcmp (by exact FF.un_of ‹Room _ _› (by decide)) ?_ ?_ (by rfl)
  exact FF.w_var rfl (by first | exact .inl rfl | exact .inr (.inl rfl) | exact .inr (.inr rfl)) (by decide) (by decide)
  exact FF.w_int
  exact FF.w_var rfl (by first | exact .inl rfl | exact .inr (.inl rfl) | exact .inr (.inr rfl)) (by decide) (by decide)
  refine FF.w_dctF ?_ (by rfl) (by rfl) (by rfl) (by simp) (by decide)
  refine FF.w_pcons ?_ ?_ ?_
  exact FF.w_str
  exact FF.w_var rfl (by first | exact .inl rfl | exact .inr (.inl rfl) | exact .inr (.inr rfl)) (by decide) (by decide)
  exact FF.w_pnil
  exact FF.w_nil
theorem S_q_law_bare : FnScope ["way"] ["way"] (defScope s_q_law_bare) := C8.fnScope_by (by decide +kernel)
theorem b_q_law_bare {k : Nat} {φ : Fn} {C_Unfit C_BadText C_Level C_Few C_TooManyEdits C_NothingToUndo C_NothingToRedo : Addr}    (e_Unfit : Err0 K mg "Unfit" C_Unfit) (e_BadText : Err0 K mg "BadText" C_BadText) (e_Level : Err0 K mg "Level" C_Level) (e_Few : Err0 K mg "Few" C_Few) (e_TooManyEdits : Err0 K mg "TooManyEdits" C_TooManyEdits) (e_NothingToUndo : Err0 K mg "NothingToUndo" C_NothingToUndo) (e_NothingToRedo : Err0 K mg "NothingToRedo" C_NothingToRedo) (f : Addr) (cdv : Value) (A : Around) (outer : List Env) (s : Shared) (H : Hp) (hgd : A.guards = some []) (hr : Room k (A.deeper (envOfC "_law_bare" (defScope s_q_law_bare) s.heap.objs.size f cdv))) :
    SB (Xb P w K mg base ["way"] "_law_bare" (defScope s_q_law_bare) f cdv A outer s H) (EK.none K) (defBody s_q_law_bare) (exB φ d_q_law_bare.body) := by
  have nd : (["way"] : List Str).Nodup := by decide +kernel
  refine FF.w_cons ?_ ?_
  refine FF.w_ite ?_ ?_ ?_
  refine FF.w_tcmp (by exact FF.un_of ‹Room _ _› (by decide)) ?_ ?_ (by rfl)
  exact FF.w_var rfl (by first | exact .inl rfl | exact .inr (.inl rfl) | exact .inr (.inr rfl)) (by decide) (by decide)
  exact FF.w_int
  refine FF.w_cons ?_ ?_
  refine FF.w_ret ?_
  exact FF.w_mkE0 (by assumption) (by rfl) (by rfl) (by decide)
  exact FF.w_nil
  exact FF.w_nil
  refine FF.w_cons ?_ ?_
  refine FF.w_ite ?_ ?_ ?_
  refine FF.w_tcmp (by exact FF.un_of ‹Room _ _› (by decide)) ?_ ?_ (by rfl)
  exact FF.w_var rfl (by first | exact .inl rfl | exact .inr (.inl rfl) | exact .inr (.inr rfl)) (by decide) (by decide)
  exact FF.w_int
  refine FF.w_cons ?_ ?_
  refine FF.w_ret ?_
  exact FF.w_mkE0 (by assumption) (by rfl) (by rfl) (by decide)
  exact FF.w_nil
  exact FF.w_nil
  refine FF.w_cons ?_ ?_
  refine FF.w_ite ?_ ?_ ?_
  refine FF.w_tcmp (by exact FF.un_of ‹Room _ _› (by decide)) ?_ ?_ (by rfl)
  exact FF.w_var rfl (by first | exact .inl rfl | exact .inr (.inl rfl) | exact .inr (.inr rfl)) (by decide) (by decide)
  exact FF.w_int
  refine FF.w_cons ?_ ?_
  refine FF.w_ret ?_
  exact FF.w_mkE0 (by assumption) (by rfl) (by rfl) (by decide)
  exact FF.w_nil
  exact FF.w_nil
  refine FF.w_cons ?_ ?_
  refine FF.w_ite ?_ ?_ ?_
  refine FF.w_tcmp (by exact FF.un_of ‹Room _ _› (by decide)) ?_ ?_ (by rfl)
  exact FF.w_var rfl (by first | exact .inl rfl | exact .inr (.inl rfl) | exact .inr (.inr rfl)) (by decide) (by decide)
  exact FF.w_int
  refine FF.w_cons ?_ ?_
  refine FF.w_ret ?_
  exact FF.w_mkE0 (by assumption) (by rfl) (by rfl) (by decide)
  exact FF.w_nil
  exact FF.w_nil
  refine FF.w_cons ?_ ?_
  refine FF.w_ite ?_ ?_ ?_
  refine FF.w_tcmp (by exact FF.un_of ‹Room _ _› (by decide)) ?_ ?_ (by rfl)
  exact FF.w_var rfl (by first | exact .inl rfl | exact .inr (.inl rfl) | exact .inr (.inr rfl)) (by decide) (by decide)
  exact FF.w_int
  refine FF.w_cons ?_ ?_
  refine FF.w_ret ?_
  exact FF.w_mkE0 (by assumption) (by rfl) (by rfl) (by decide)
  exact FF.w_nil
  exact FF.w_nil
  refine FF.w_cons ?_ ?_
  refine FF.w_ret ?_
  refine FF.w_if ?_ ?_ ?_
  refine FF.w_tcmp (by exact FF.un_of ‹Room _ _› (by decide)) ?_ ?_ (by rfl)
  exact FF.w_var rfl (by first | exact .inl rfl | exact .inr (.inl rfl) | exact .inr (.inr rfl)) (by decide) (by decide)
  exact FF.w_int
  exact FF.w_mkE0 (by assumption) (by rfl) (by rfl) (by decide)
  exact FF.w_mkE0 (by assumption) (by rfl) (by rfl) (by decide)
  exact FF.w_nil
theorem S_law : FnScope ["script", "deck", "turn", "way", "thing", "is_named", "known", "made", "held", "again", "mate"] ["script"] (defScope s_law) := C8.fnScope_by (by decide +kernel)
theorem b_law {k : Nat} {φ : Fn} {C_FieldsError : Addr} (C_q_law_deck : Cal P w K mg base k (φ 526) s_q_law_deck "_law_deck" ["script"]) (C_q_law_any : Cal P w K mg base k (φ 529) s_q_law_any "_law_any" ["deck", "deep"]) (C_q_law_draw : Cal P w K mg base k (φ 68) s_q_law_draw "_law_draw" ["deck", "many"]) (C_q_law_made : Cal P w K mg base k (φ 527) s_q_law_made "_law_made" ["way", "thing", "is_named"]) (C_q_law_is_kind : Cal P w K mg base k (φ 528) s_q_law_is_kind "_law_is_kind" ["way", "made"]) (C_q_law_bare : Cal P w K mg base k (φ 530) s_q_law_bare "_law_bare" ["way"]) (m_range : mg "range" = none) (m_isinstance : mg "isinstance" = none) (m_repr : mg "repr" = none) (m_ValueError : mg "ValueError" = none)  (mc_FieldsError : mg "FieldsError" = some (.ref C_FieldsError)) (kv_VE_FieldsError : PySem.W.kitOne K (.type "ValueError") (.ref C_FieldsError) = some false) (f : Addr) (cdv : Value) (A : Around) (outer : List Env) (s : Shared) (H : Hp) (hgd : A.guards = some []) (hr : Room k (A.deeper (envOfC "law" (defScope s_law) s.heap.objs.size f cdv))) :
    SB (Xb P w K mg base ["script", "deck", "turn", "way", "thing", "is_named", "known", "made", "held", "again", "mate"] "law" (defScope s_law) f cdv A outer s H) (EK.none K) (defBody s_law) (exB φ d_law.body) := by
  have nd : (["script", "deck", "turn", "way", "thing", "is_named", "known", "made", "held", "again", "mate"] : List Str).Nodup := by decide +kernel
  refine FF.w_cons ?_ ?_
  refine FF.w_asg ?_ ?_ (by rfl) (by rfl) (by rfl)
  refine FF.w_call (by assumption) (by assumption) (by assumption) (by rfl) (by intro _ _ _ _ _ _; exact FF.ar1 (fun _ => rfl)) ?_ (by decide) (by rfl) (by rfl)
  refine FF.w_acons ?_ ?_ (by rfl)
  exact FF.w_var rfl (by first | exact .inl rfl | exact .inr (.inl rfl) | exact .inr (.inr rfl)) (by decide) (by decide)
  exact FF.w_anil
  exact FF.sg_name (by assumption) rfl (by first | exact .inl rfl | exact .inr rfl) (by first | exact .inl rfl | exact .inr rfl)
  refine FF.w_cons ?_ ?_
  refine FF.w_for rfl PassesOwn.never ?_ ?_ ?_ (by intro _; rfl)
  refine FF.w_range1 (by rfl) (by assumption) ?_ (by rfl)
  exact FF.w_int
  exact FF.sg_name (by assumption) rfl (by first | exact .inl rfl | exact .inr rfl) (by first | exact .inl rfl | exact .inr rfl)
  refine FF.w_cons ?_ ?_
  refine FF.w_for rfl PassesOwn.never ?_ ?_ ?_ (by intro _; rfl)
  refine FF.w_range1 (by rfl) (by assumption) ?_ (by rfl)
  exact FF.w_int
  exact FF.sg_name (by assumption) rfl (by first | exact .inl rfl | exact .inr rfl) (by first | exact .inl rfl | exact .inr rfl)
  refine FF.w_cons ?_ ?_
  refine FF.w_par rfl (by assumption) (by rfl) (by rfl) (by decide) (by rfl) (by rfl) ?_ (by rfl) (by rfl)
  refine FF.w_acons ?_ ?_ (by rfl)
  refine FF.w_call (by assumption) (by assumption) (by assumption) (by rfl) (by intro _ _ _ _ _ _; exact FF.ar2 (fun _ _ => rfl)) ?_ (by decide) (by rfl) (by rfl)
  refine FF.w_acons ?_ ?_ (by rfl)
  exact FF.w_var rfl (by first | exact .inl rfl | exact .inr (.inl rfl) | exact .inr (.inr rfl)) (by decide) (by decide)
  refine FF.w_acons ?_ ?_ (by rfl)
  exact FF.w_int
  exact FF.w_anil
  refine FF.w_acons ?_ ?_ (by rfl)
  refine FF.w_cmp (by exact FF.un_of ‹Room _ _› (by decide)) ?_ ?_ (by rfl)
  refine FF.w_call (by assumption) (by assumption) (by assumption) (by rfl) (by intro _ _ _ _ _ _; exact FF.ar2 (fun _ _ => rfl)) ?_ (by decide) (by rfl) (by rfl)
  refine FF.w_acons ?_ ?_ (by rfl)
  exact FF.w_var rfl (by first | exact .inl rfl | exact .inr (.inl rfl) | exact .inr (.inr rfl)) (by decide) (by decide)
  refine FF.w_acons ?_ ?_ (by rfl)
  exact FF.w_int
  exact FF.w_anil
  exact FF.w_int
  exact FF.w_anil
  refine FF.w_cons ?_ ?_
  refine FF.w_asg ?_ ?_ (by rfl) (by rfl) (by rfl)
  refine FF.w_cb (FF.cb_reprR (by assumption) (by exact FF.un_of ‹Room _ _› (by decide))) (by rfl) (by assumption) PyProof.Rows.boot_repr ?_ (by decide) (by decide) (by rfl) (by rfl)
  refine FF.w_acons ?_ ?_ (by rfl)
  exact FF.w_var rfl (by first | exact .inl rfl | exact .inr (.inl rfl) | exact .inr (.inr rfl)) (by decide) (by decide)
  exact FF.w_anil
  exact FF.sg_name (by assumption) rfl (by first | exact .inl rfl | exact .inr rfl) (by first | exact .inl rfl | exact .inr rfl)
  refine FF.w_cons ?_ ?_
  refine FF.w_asg ?_ ?_ (by rfl) (by rfl) (by rfl)
  refine FF.w_call (by assumption) (by assumption) (by assumption) (by rfl) (by intro _ _ _ _ _ _; exact FF.ar3 (fun _ _ _ => rfl)) ?_ (by decide) (by rfl) (by rfl)
  refine FF.w_acons ?_ ?_ (by rfl)
  exact FF.w_var rfl (by first | exact .inl rfl | exact .inr (.inl rfl) | exact .inr (.inr rfl)) (by decide) (by decide)
  refine FF.w_acons ?_ ?_ (by rfl)
  exact FF.w_var rfl (by first | exact .inl rfl | exact .inr (.inl rfl) | exact .inr (.inr rfl)) (by decide) (by decide)
  refine FF.w_acons ?_ ?_ (by rfl)
  exact FF.w_var rfl (by first | exact .inl rfl | exact .inr (.inl rfl) | exact .inr (.inr rfl)) (by decide) (by decide)
  exact FF.w_anil
  refine FF.sg_tup rfl ?_ (by rfl) (by rfl)
  refine FF.sgs_cons ?_ ?_ (by rfl)
  exact FF.sg_name (by assumption) rfl (by first | exact .inl rfl | exact .inr rfl) (by first | exact .inl rfl | exact .inr rfl)
  refine FF.sgs_cons ?_ ?_ (by rfl)
  exact FF.sg_name (by assumption) rfl (by first | exact .inl rfl | exact .inr rfl) (by first | exact .inl rfl | exact .inr rfl)
  exact FF.sgs_nil
  refine FF.w_cons ?_ ?_
  refine FF.w_asg ?_ ?_ (by rfl) (by rfl) (by rfl)
  refine FF.w_call (by assumption) (by assumption) (by assumption) (by rfl) (by intro _ _ _ _ _ _; exact FF.ar3 (fun _ _ _ => rfl)) ?_ (by decide) (by rfl) (by rfl)
  refine FF.w_acons ?_ ?_ (by rfl)
  exact FF.w_var rfl (by first | exact .inl rfl | exact .inr (.inl rfl) | exact .inr (.inr rfl)) (by decide) (by decide)
  refine FF.w_acons ?_ ?_ (by rfl)
  exact FF.w_var rfl (by first | exact .inl rfl | exact .inr (.inl rfl) | exact .inr (.inr rfl)) (by decide) (by decide)
  refine FF.w_acons ?_ ?_ (by rfl)
  refine FF.w_not ?_
  exact FF.w_var rfl (by first | exact .inl rfl | exact .inr (.inl rfl) | exact .inr (.inr rfl)) (by decide) (by decide)
  exact FF.w_anil
  refine FF.sg_tup rfl ?_ (by rfl) (by rfl)
  refine FF.sgs_cons ?_ ?_ (by rfl)
  exact FF.sg_name (by assumption) rfl (by first | exact .inl rfl | exact .inr rfl) (by first | exact .inl rfl | exact .inr rfl)
  refine FF.sgs_cons ?_ ?_ (by rfl)
  exact FF.sg_name (by assumption) rfl (by first | exact .inl rfl | exact .inr rfl) (by first | exact .inl rfl | exact .inr rfl)
  exact FF.sgs_nil
  refine FF.w_cons ?_ ?_
  refine FF.w_ite ?_ ?_ ?_
  refine FF.w_tbool ?_
  refine FF.w_twor ?_ ?_
  refine FF.w_tcmp (by exact FF.un_of ‹Room _ _› (by decide)) ?_ ?_ (by rfl)
  refine FF.w_cb (FF.cb_reprR (by assumption) (by exact FF.un_of ‹Room _ _› (by decide))) (by rfl) (by assumption) PyProof.Rows.boot_repr ?_ (by decide) (by decide) (by rfl) (by rfl)
  refine FF.w_acons ?_ ?_ (by rfl)
  refine FF.w_lst ?_
  refine FF.w_acons ?_ ?_ (by rfl)
  exact FF.w_var rfl (by first | exact .inl rfl | exact .inr (.inl rfl) | exact .inr (.inr rfl)) (by decide) (by decide)
  refine FF.w_acons ?_ ?_ (by rfl)
  exact FF.w_var rfl (by first | exact .inl rfl | exact .inr (.inl rfl) | exact .inr (.inr rfl)) (by decide) (by decide)
  refine FF.w_acons ?_ ?_ (by rfl)
  exact FF.w_var rfl (by first | exact .inl rfl | exact .inr (.inl rfl) | exact .inr (.inr rfl)) (by decide) (by decide)
  exact FF.w_anil
  exact FF.w_anil
  refine FF.w_cb (FF.cb_reprR (by assumption) (by exact FF.un_of ‹Room _ _› (by decide))) (by rfl) (by assumption) PyProof.Rows.boot_repr ?_ (by decide) (by decide) (by rfl) (by rfl)
  refine FF.w_acons ?_ ?_ (by rfl)
  refine FF.w_lst ?_
  refine FF.w_acons ?_ ?_ (by rfl)
  exact FF.w_var rfl (by first | exact .inl rfl | exact .inr (.inl rfl) | exact .inr (.inr rfl)) (by decide) (by decide)
  refine FF.w_acons ?_ ?_ (by rfl)
  exact FF.w_var rfl (by first | exact .inl rfl | exact .inr (.inl rfl) | exact .inr (.inr rfl)) (by decide) (by decide)
  refine FF.w_acons ?_ ?_ (by rfl)
  exact FF.w_var rfl (by first | exact .inl rfl | exact .inr (.inl rfl) | exact .inr (.inr rfl)) (by decide) (by decide)
  exact FF.w_anil
  exact FF.w_anil
  refine FF.w_tone_or ?_
  refine FF.w_tcmp (by exact FF.un_of ‹Room _ _› (by decide)) ?_ ?_ (by rfl)
  refine FF.w_cb (FF.cb_reprR (by assumption) (by exact FF.un_of ‹Room _ _› (by decide))) (by rfl) (by assumption) PyProof.Rows.boot_repr ?_ (by decide) (by decide) (by rfl) (by rfl)
  refine FF.w_acons ?_ ?_ (by rfl)
  exact FF.w_var rfl (by first | exact .inl rfl | exact .inr (.inl rfl) | exact .inr (.inr rfl)) (by decide) (by decide)
  exact FF.w_anil
  exact FF.w_var rfl (by first | exact .inl rfl | exact .inr (.inl rfl) | exact .inr (.inr rfl)) (by decide) (by decide)
  refine FF.w_cons ?_ ?_
  refine FF.w_ret ?_
  exact FF.w_bool
  exact FF.w_nil
  exact FF.w_nil
  refine FF.w_cons ?_ ?_
  refine FF.w_ite ?_ ?_ ?_
  refine FF.w_tbool ?_
  refine FF.w_twor ?_ ?_
  refine FF.w_tnot ?_
  refine FF.w_tplain ?_ (fun _ => rfl)
  refine FF.w_call (by assumption) (by assumption) (by assumption) (by rfl) (by intro _ _ _ _ _ _; exact FF.ar2 (fun _ _ => rfl)) ?_ (by decide) (by rfl) (by rfl)
  refine FF.w_acons ?_ ?_ (by rfl)
  exact FF.w_var rfl (by first | exact .inl rfl | exact .inr (.inl rfl) | exact .inr (.inr rfl)) (by decide) (by decide)
  refine FF.w_acons ?_ ?_ (by rfl)
  exact FF.w_var rfl (by first | exact .inl rfl | exact .inr (.inl rfl) | exact .inr (.inr rfl)) (by decide) (by decide)
  exact FF.w_anil
  refine FF.w_tone_or ?_
  refine FF.w_tnot ?_
  refine FF.w_tplain ?_ (fun _ => rfl)
  refine FF.w_call (by assumption) (by assumption) (by assumption) (by rfl) (by intro _ _ _ _ _ _; exact FF.ar2 (fun _ _ => rfl)) ?_ (by decide) (by rfl) (by rfl)
  refine FF.w_acons ?_ ?_ (by rfl)
  exact FF.w_var rfl (by first | exact .inl rfl | exact .inr (.inl rfl) | exact .inr (.inr rfl)) (by decide) (by decide)
  refine FF.w_acons ?_ ?_ (by rfl)
  exact FF.w_var rfl (by first | exact .inl rfl | exact .inr (.inl rfl) | exact .inr (.inr rfl)) (by decide) (by decide)
  exact FF.w_anil
  refine FF.w_cons ?_ ?_
  refine FF.w_ret ?_
  exact FF.w_bool
  exact FF.w_nil
  exact FF.w_nil
  exact FF.w_nil
  exact FF.w_nil
  refine FF.w_cons ?_ ?_
  refine FF.w_for rfl PassesOwn.never ?_ ?_ ?_ (by intro _; rfl)
  refine FF.w_range2 (by rfl) (by assumption) ?_ ?_ (by rfl) (by rfl)
  exact FF.w_int
  exact FF.w_int
  exact FF.sg_name (by assumption) rfl (by first | exact .inl rfl | exact .inr rfl) (by first | exact .inl rfl | exact .inr rfl)
  refine FF.w_cons ?_ ?_
  refine FF.w_ite ?_ ?_ ?_
  refine FF.w_tnot ?_
  refine FF.w_tplain ?_ (fun _ => rfl)
  refine FF.w_call (by assumption) (by assumption) (by assumption) (by rfl) (by intro _ _ _ _ _ _; exact FF.ar2 (fun _ _ => rfl)) ?_ (by decide) (by rfl) (by rfl)
  refine FF.w_acons ?_ ?_ (by rfl)
  exact FF.w_var rfl (by first | exact .inl rfl | exact .inr (.inl rfl) | exact .inr (.inr rfl)) (by decide) (by decide)
  refine FF.w_acons ?_ ?_ (by rfl)
  refine FF.w_call (by assumption) (by assumption) (by assumption) (by rfl) (by intro _ _ _ _ _ _; exact FF.ar1 (fun _ => rfl)) ?_ (by decide) (by rfl) (by rfl)
  refine FF.w_acons ?_ ?_ (by rfl)
  exact FF.w_var rfl (by first | exact .inl rfl | exact .inr (.inl rfl) | exact .inr (.inr rfl)) (by decide) (by decide)
  exact FF.w_anil
  exact FF.w_anil
  refine FF.w_cons ?_ ?_
  refine FF.w_ret ?_
  exact FF.w_bool
  exact FF.w_nil
  exact FF.w_nil
  exact FF.w_nil
  refine FF.w_cons ?_ ?_
  refine FF.w_ret ?_
  refine FF.w_not ?_
  exact FF.w_isVE (by assumption) (by assumption) (by rfl) (by assumption) (by rfl) (by decide) (by rfl) (by assumption) (by rfl) (by rfl)
  exact FF.w_nil
structure All (P : Program) (w : World) (K : PySem.W.Frag) (mg : Str → Option Value) (base : Heap) (k : Nat) : Prop where
  c_q_law_deck : Cal P w K mg base k (run tbl k 526) s_q_law_deck "_law_deck" ["script"]
  c_q_law_made : Cal P w K mg base k (run tbl k 527) s_q_law_made "_law_made" ["way", "thing", "is_named"]
  c_q_law_is_kind : Cal P w K mg base k (run tbl k 528) s_q_law_is_kind "_law_is_kind" ["way", "made"]
  c_q_law_draw : Cal P w K mg base k (run tbl k 68) s_q_law_draw "_law_draw" ["deck", "many"]
  c_q_law_pick : Cal P w K mg base k (run tbl k 69) s_q_law_pick "_law_pick" ["deck", "some"]
  c_q_law_any : Cal P w K mg base k (run tbl k 529) s_q_law_any "_law_any" ["deck", "deep"]
  c_q_law_bare : Cal P w K mg base k (run tbl k 530) s_q_law_bare "_law_bare" ["way"]
  c_law : Cal P w K mg base k (run tbl k 531) s_law "law" ["script"]
theorem all_ok {C_BadBook C_TooMany C_Unlevel C_NoVersion C_BadLog C_Unfit C_BadText C_Level C_Few C_TooManyEdits C_NothingToUndo C_NothingToRedo C_FieldsError : Addr}
    (D_q_law_deck : DefIn K mg s_q_law_deck "_law_deck")
    (D_q_law_made : DefIn K mg s_q_law_made "_law_made")
    (D_q_law_is_kind : DefIn K mg s_q_law_is_kind "_law_is_kind")
    (D_q_law_draw : DefIn K mg s_q_law_draw "_law_draw")
    (D_q_law_pick : DefIn K mg s_q_law_pick "_law_pick")
    (D_q_law_any : DefIn K mg s_q_law_any "_law_any")
    (D_q_law_bare : DefIn K mg s_q_law_bare "_law_bare")
    (D_law : DefIn K mg s_law "law")
    (m_ValueError : mg "ValueError" = none)
    (m_abs : mg "abs" = none)
    (m_int : mg "int" = none)
    (m_isinstance : mg "isinstance" = none)
    (m_len : mg "len" = none)
    (m_range : mg "range" = none)
    (m_repr : mg "repr" = none)
    (m_tuple : mg "tuple" = none)
    (e_BadBook : Err1 P K mg "BadBook" C_BadBook)
    (e_TooMany : Err1 P K mg "TooMany" C_TooMany)
    (e_Unlevel : Err1 P K mg "Unlevel" C_Unlevel)
    (e_NoVersion : Err1 P K mg "NoVersion" C_NoVersion)
    (e_BadLog : Err1 P K mg "BadLog" C_BadLog)
    (mc_BadBook : mg "BadBook" = some (.ref C_BadBook))
    (is_BadBook : IsEK K "BadBook" (.ref C_BadBook))
    (mc_TooMany : mg "TooMany" = some (.ref C_TooMany))
    (is_TooMany : IsEK K "TooMany" (.ref C_TooMany))
    (mc_Unlevel : mg "Unlevel" = some (.ref C_Unlevel))
    (is_Unlevel : IsEK K "Unlevel" (.ref C_Unlevel))
    (mc_NoVersion : mg "NoVersion" = some (.ref C_NoVersion))
    (is_NoVersion : IsEK K "NoVersion" (.ref C_NoVersion))
    (mc_BadLog : mg "BadLog" = some (.ref C_BadLog))
    (is_BadLog : IsEK K "BadLog" (.ref C_BadLog))
    (mc_Unfit : mg "Unfit" = some (.ref C_Unfit))
    (is_Unfit : IsEK K "Unfit" (.ref C_Unfit))
    (mc_BadText : mg "BadText" = some (.ref C_BadText))
    (is_BadText : IsEK K "BadText" (.ref C_BadText))
    (mc_Level : mg "Level" = some (.ref C_Level))
    (is_Level : IsEK K "Level" (.ref C_Level))
    (mc_Few : mg "Few" = some (.ref C_Few))
    (is_Few : IsEK K "Few" (.ref C_Few))
    (mc_TooManyEdits : mg "TooManyEdits" = some (.ref C_TooManyEdits))
    (is_TooManyEdits : IsEK K "TooManyEdits" (.ref C_TooManyEdits))
    (mc_NothingToUndo : mg "NothingToUndo" = some (.ref C_NothingToUndo))
    (is_NothingToUndo : IsEK K "NothingToUndo" (.ref C_NothingToUndo))
    (mc_NothingToRedo : mg "NothingToRedo" = some (.ref C_NothingToRedo))
    (is_NothingToRedo : IsEK K "NothingToRedo" (.ref C_NothingToRedo))
    (is_ValueError : IsEK K "ValueError" (.type "ValueError"))
    (mc_FieldsError : mg "FieldsError" = some (.ref C_FieldsError))
    (is_FieldsError : IsEK K "FieldsError" (.ref C_FieldsError))
    (e_Unfit : Err0 K mg "Unfit" C_Unfit)
    (e_BadText : Err0 K mg "BadText" C_BadText)
    (e_Level : Err0 K mg "Level" C_Level)
    (e_Few : Err0 K mg "Few" C_Few)
    (e_TooManyEdits : Err0 K mg "TooManyEdits" C_TooManyEdits)
    (e_NothingToUndo : Err0 K mg "NothingToUndo" C_NothingToUndo)
    (e_NothingToRedo : Err0 K mg "NothingToRedo" C_NothingToRedo)
    (kv_VE_FieldsError : PySem.W.kitOne K (.type "ValueError") (.ref C_FieldsError) = some false)
    : ∀ k, All P w K mg base k
  | 0 => ⟨cal_zero D_q_law_deck, cal_zero D_q_law_made, cal_zero D_q_law_is_kind, cal_zero D_q_law_draw, cal_zero D_q_law_pick, cal_zero D_q_law_any, cal_zero D_q_law_bare, cal_zero D_law⟩
  | k + 1 => by
    have I := all_ok D_q_law_deck D_q_law_made D_q_law_is_kind D_q_law_draw D_q_law_pick D_q_law_any D_q_law_bare D_law m_ValueError m_abs m_int m_isinstance m_len m_range m_repr m_tuple  e_BadBook e_TooMany e_Unlevel e_NoVersion e_BadLog mc_BadBook is_BadBook mc_TooMany is_TooMany mc_Unlevel is_Unlevel mc_NoVersion is_NoVersion mc_BadLog is_BadLog mc_Unfit is_Unfit mc_BadText is_BadText mc_Level is_Level mc_Few is_Few mc_TooManyEdits is_TooManyEdits mc_NothingToUndo is_NothingToUndo mc_NothingToRedo is_NothingToRedo is_ValueError mc_FieldsError is_FieldsError e_Unfit e_BadText e_Level e_Few e_TooManyEdits e_NothingToUndo e_NothingToRedo kv_VE_FieldsError k
    exact ⟨
      (cal_succ D_q_law_deck S_q_law_deck rfl rfl (b_q_law_deck  m_len m_abs m_int  ) : Cal P w K mg base (k + 1) (runDef (run tbl k) d_q_law_deck) _ _ _),
      (cal_succ D_q_law_made S_q_law_made rfl rfl (b_q_law_made    e_BadBook e_TooMany e_Unlevel e_NoVersion e_BadLog) : Cal P w K mg base (k + 1) (runDef (run tbl k) d_q_law_made) _ _ _),
      (cal_succ D_q_law_is_kind S_q_law_is_kind rfl rfl (b_q_law_is_kind  m_isinstance m_ValueError m_range  mc_BadBook is_BadBook mc_TooMany is_TooMany mc_Unlevel is_Unlevel mc_NoVersion is_NoVersion mc_BadLog is_BadLog mc_Unfit is_Unfit mc_BadText is_BadText mc_Level is_Level mc_Few is_Few mc_TooManyEdits is_TooManyEdits mc_NothingToUndo is_NothingToUndo mc_NothingToRedo is_NothingToRedo is_ValueError mc_FieldsError is_FieldsError) : Cal P w K mg base (k + 1) (runDef (run tbl k) d_q_law_is_kind) _ _ _),
      (cal_succ D_q_law_draw S_q_law_draw rfl rfl (b_q_law_draw  m_int  ) : Cal P w K mg base (k + 1) (runDef (run tbl k) d_q_law_draw) _ _ _),
      (cal_succ D_q_law_pick S_q_law_pick rfl rfl (b_q_law_pick I.c_q_law_draw m_len  ) : Cal P w K mg base (k + 1) (runDef (run tbl k) d_q_law_pick) _ _ _),
      (cal_succ D_q_law_any S_q_law_any rfl rfl (b_q_law_any I.c_q_law_draw I.c_q_law_pick I.c_q_law_any m_tuple m_range  ) : Cal P w K mg base (k + 1) (runDef (run tbl k) d_q_law_any) _ _ _),
      (cal_succ D_q_law_bare S_q_law_bare rfl rfl (b_q_law_bare    e_Unfit e_BadText e_Level e_Few e_TooManyEdits e_NothingToUndo e_NothingToRedo) : Cal P w K mg base (k + 1) (runDef (run tbl k) d_q_law_bare) _ _ _),
      (cal_succ D_law S_law rfl rfl (b_law I.c_q_law_deck I.c_q_law_any I.c_q_law_draw I.c_q_law_made I.c_q_law_is_kind I.c_q_law_bare m_range m_isinstance m_repr m_ValueError  mc_FieldsError kv_VE_FieldsError) : Cal P w K mg base (k + 1) (runDef (run tbl k) d_law) _ _ _)⟩
abbrev i_BadBook : Stmt := match top 4 with | .ClassDef _ _ _ b _ _ _ _ _ _ _ => b.getD 0 (.Pass ⟨0, 0, 0, 0⟩) | s => s
theorem I_BadBook : InitSt i_BadBook "error" := ⟨⟨_, _, _, _, _, _, _, _, _, _, rfl, ⟨_, fun env => rfl⟩, fun env h => rfl, fun env => rfl⟩, ⟨_, rfl, rfl⟩, rfl, rfl, rfl, rfl, by decide, by decide, by decide, rfl, rfl, rfl⟩
abbrev i_TooMany : Stmt := match top 5 with | .ClassDef _ _ _ b _ _ _ _ _ _ _ => b.getD 0 (.Pass ⟨0, 0, 0, 0⟩) | s => s
theorem I_TooMany : InitSt i_TooMany "limit" := ⟨⟨_, _, _, _, _, _, _, _, _, _, rfl, ⟨_, fun env => rfl⟩, fun env h => rfl, fun env => rfl⟩, ⟨_, rfl, rfl⟩, rfl, rfl, rfl, rfl, by decide, by decide, by decide, rfl, rfl, rfl⟩
abbrev i_Unlevel : Stmt := match top 7 with | .ClassDef _ _ _ b _ _ _ _ _ _ _ => b.getD 0 (.Pass ⟨0, 0, 0, 0⟩) | s => s
theorem I_Unlevel : InitSt i_Unlevel "pair" := ⟨⟨_, _, _, _, _, _, _, _, _, _, rfl, ⟨_, fun env => rfl⟩, fun env h => rfl, fun env => rfl⟩, ⟨_, rfl, rfl⟩, rfl, rfl, rfl, rfl, by decide, by decide, by decide, rfl, rfl, rfl⟩
abbrev i_NoVersion : Stmt := match top 12 with | .ClassDef _ _ _ b _ _ _ _ _ _ _ => b.getD 0 (.Pass ⟨0, 0, 0, 0⟩) | s => s
theorem I_NoVersion : InitSt i_NoVersion "given" := ⟨⟨_, _, _, _, _, _, _, _, _, _, rfl, ⟨_, fun env => rfl⟩, fun env h => rfl, fun env => rfl⟩, ⟨_, rfl, rfl⟩, rfl, rfl, rfl, rfl, by decide, by decide, by decide, rfl, rfl, rfl⟩
abbrev i_BadLog : Stmt := match top 13 with | .ClassDef _ _ _ b _ _ _ _ _ _ _ => b.getD 0 (.Pass ⟨0, 0, 0, 0⟩) | s => s
theorem I_BadLog : InitSt i_BadLog "place" := ⟨⟨_, _, _, _, _, _, _, _, _, _, rfl, ⟨_, fun env => rfl⟩, fun env h => rfl, fun env => rfl⟩, ⟨_, rfl, rfl⟩, rfl, rfl, rfl, rfl, by decide, by decide, by decide, rfl, rfl, rfl⟩
theorem head_mk {l : PySem.W.OpenLaw} {h : Heap} {fa f0 f1 f2 f3 f4 f5 f6 f7 : Addr} (X : K.In h) (G : h.Ns mainGlobals mg) (hfa : mg "law" = some (.ref fa))
    {od0 an0 od1 an1 od2 an2 od3 an3 od4 an4 od5 an5 od6 an6 od7 an7 : Option Addr} {sl0 sl1 sl2 sl3 sl4 sl5 sl6 sl7 : Array (Option Value)} {oc0 kV0 dc0 pm0 cd0 ct0 oc1 kV1 dc1 pm1 cd1 ct1 oc2 kV2 dc2 pm2 cd2 ct2 oc3 kV3 dc3 pm3 cd3 ct3 oc4 kV4 dc4 pm4 cd4 ct4 oc5 kV5 dc5 pm5 cd5 ct5 oc6 kV6 dc6 pm6 cd6 ct6 oc7 kV7 dc7 pm7 cd7 ct7 : Value}
    (a0 : PySem.W.nsIn K mainGlobals "_law_deck" = some (some (.ref f0))) (l0 : K.lookup f0 = some ⟨oc0, od0, .func (PySem.W.fnOf "_law_deck" "_law_deck" (defArgs s_q_law_deck) (defBody s_q_law_deck) (defScope s_q_law_deck) .none kV0 dc0 pm0 an0 cd0 ct0), sl0⟩) (c0 : PySem.W.codeIn K cd0 "_law_deck" = true) (k0 : PySem.W.keepIn K (.ref f0) = true)
    (a1 : PySem.W.nsIn K mainGlobals "_law_made" = some (some (.ref f1))) (l1 : K.lookup f1 = some ⟨oc1, od1, .func (PySem.W.fnOf "_law_made" "_law_made" (defArgs s_q_law_made) (defBody s_q_law_made) (defScope s_q_law_made) .none kV1 dc1 pm1 an1 cd1 ct1), sl1⟩) (c1 : PySem.W.codeIn K cd1 "_law_made" = true) (k1 : PySem.W.keepIn K (.ref f1) = true)
    (a2 : PySem.W.nsIn K mainGlobals "_law_is_kind" = some (some (.ref f2))) (l2 : K.lookup f2 = some ⟨oc2, od2, .func (PySem.W.fnOf "_law_is_kind" "_law_is_kind" (defArgs s_q_law_is_kind) (defBody s_q_law_is_kind) (defScope s_q_law_is_kind) .none kV2 dc2 pm2 an2 cd2 ct2), sl2⟩) (c2 : PySem.W.codeIn K cd2 "_law_is_kind" = true) (k2 : PySem.W.keepIn K (.ref f2) = true)
    (a3 : PySem.W.nsIn K mainGlobals "_law_draw" = some (some (.ref f3))) (l3 : K.lookup f3 = some ⟨oc3, od3, .func (PySem.W.fnOf "_law_draw" "_law_draw" (defArgs s_q_law_draw) (defBody s_q_law_draw) (defScope s_q_law_draw) .none kV3 dc3 pm3 an3 cd3 ct3), sl3⟩) (c3 : PySem.W.codeIn K cd3 "_law_draw" = true) (k3 : PySem.W.keepIn K (.ref f3) = true)
    (a4 : PySem.W.nsIn K mainGlobals "_law_pick" = some (some (.ref f4))) (l4 : K.lookup f4 = some ⟨oc4, od4, .func (PySem.W.fnOf "_law_pick" "_law_pick" (defArgs s_q_law_pick) (defBody s_q_law_pick) (defScope s_q_law_pick) .none kV4 dc4 pm4 an4 cd4 ct4), sl4⟩) (c4 : PySem.W.codeIn K cd4 "_law_pick" = true) (k4 : PySem.W.keepIn K (.ref f4) = true)
    (a5 : PySem.W.nsIn K mainGlobals "_law_any" = some (some (.ref f5))) (l5 : K.lookup f5 = some ⟨oc5, od5, .func (PySem.W.fnOf "_law_any" "_law_any" (defArgs s_q_law_any) (defBody s_q_law_any) (defScope s_q_law_any) .none kV5 dc5 pm5 an5 cd5 ct5), sl5⟩) (c5 : PySem.W.codeIn K cd5 "_law_any" = true) (k5 : PySem.W.keepIn K (.ref f5) = true)
    (a6 : PySem.W.nsIn K mainGlobals "_law_bare" = some (some (.ref f6))) (l6 : K.lookup f6 = some ⟨oc6, od6, .func (PySem.W.fnOf "_law_bare" "_law_bare" (defArgs s_q_law_bare) (defBody s_q_law_bare) (defScope s_q_law_bare) .none kV6 dc6 pm6 an6 cd6 ct6), sl6⟩) (c6 : PySem.W.codeIn K cd6 "_law_bare" = true) (k6 : PySem.W.keepIn K (.ref f6) = true)
    (a7 : PySem.W.nsIn K mainGlobals "law" = some (some (.ref f7))) (l7 : K.lookup f7 = some ⟨oc7, od7, .func (PySem.W.fnOf "law" "law" (defArgs s_law) (defBody s_law) (defScope s_law) .none kV7 dc7 pm7 an7 cd7 ct7), sl7⟩) (c7 : PySem.W.codeIn K cd7 "law" = true) (k7 : PySem.W.keepIn K (.ref f7) = true)
    (z0 : PySem.W.nsIn K mainGlobals "ValueError" = some none)
    (z1 : PySem.W.nsIn K mainGlobals "abs" = some none)
    (z2 : PySem.W.nsIn K mainGlobals "int" = some none)
    (z3 : PySem.W.nsIn K mainGlobals "isinstance" = some none)
    (z4 : PySem.W.nsIn K mainGlobals "len" = some none)
    (z5 : PySem.W.nsIn K mainGlobals "range" = some none)
    (z6 : PySem.W.nsIn K mainGlobals "repr" = some none)
    (z7 : PySem.W.nsIn K mainGlobals "tuple" = some none)
    {C_BadBook : Addr} (xg_BadBook : PySem.W.nsIn K mainGlobals "BadBook" = some (some (.ref C_BadBook)))
    {C_TooMany : Addr} (xg_TooMany : PySem.W.nsIn K mainGlobals "TooMany" = some (some (.ref C_TooMany)))
    {C_Unlevel : Addr} (xg_Unlevel : PySem.W.nsIn K mainGlobals "Unlevel" = some (some (.ref C_Unlevel)))
    {C_NoVersion : Addr} (xg_NoVersion : PySem.W.nsIn K mainGlobals "NoVersion" = some (some (.ref C_NoVersion)))
    {C_BadLog : Addr} (xg_BadLog : PySem.W.nsIn K mainGlobals "BadLog" = some (some (.ref C_BadLog)))
    {C_Unfit : Addr} (xg_Unfit : PySem.W.nsIn K mainGlobals "Unfit" = some (some (.ref C_Unfit)))
    {C_BadText : Addr} (xg_BadText : PySem.W.nsIn K mainGlobals "BadText" = some (some (.ref C_BadText)))
    {C_Level : Addr} (xg_Level : PySem.W.nsIn K mainGlobals "Level" = some (some (.ref C_Level)))
    {C_Few : Addr} (xg_Few : PySem.W.nsIn K mainGlobals "Few" = some (some (.ref C_Few)))
    {C_TooManyEdits : Addr} (xg_TooManyEdits : PySem.W.nsIn K mainGlobals "TooManyEdits" = some (some (.ref C_TooManyEdits)))
    {C_NothingToUndo : Addr} (xg_NothingToUndo : PySem.W.nsIn K mainGlobals "NothingToUndo" = some (some (.ref C_NothingToUndo)))
    {C_NothingToRedo : Addr} (xg_NothingToRedo : PySem.W.nsIn K mainGlobals "NothingToRedo" = some (some (.ref C_NothingToRedo)))
    {C_FieldsError : Addr} (xg_FieldsError : PySem.W.nsIn K mainGlobals "FieldsError" = some (some (.ref C_FieldsError)))
    {FI_BadBook cc_BadBook cda_BadBook : Addr} {kV_BadBook doc_BadBook pm_BadBook ct_BadBook oc_BadBook ccl_BadBook cl_BadBook : Value} {an_BadBook od_BadBook cdd_BadBook cld_BadBook : Option Addr} {osl_BadBook ccs_BadBook csl_BadBook : Array (Option Value)} {vs_BadBook : Array Value} {fl_BadBook : Str} {tf_BadBook : Tok}
    (xi_BadBook : PySem.W.findIn K (.ref C_BadBook) "__init__" = some (some (.ref FI_BadBook))) (xl_BadBook : K.lookup FI_BadBook = some ⟨oc_BadBook, od_BadBook, .func (PySem.W.ksFn "__init__" "BadBook.__init__" (defArgs i_BadBook) (defBody i_BadBook) (defScope i_BadBook) .none kV_BadBook doc_BadBook pm_BadBook an_BadBook (.ref cda_BadBook) ct_BadBook cc_BadBook), osl_BadBook⟩)
    (xk_BadBook : K.lookup cda_BadBook = some ⟨ccl_BadBook, cdd_BadBook, .fields vs_BadBook, ccs_BadBook⟩) (xe_BadBook : K.lookup cc_BadBook = some ⟨cl_BadBook, cld_BadBook, .cell (some (.ref C_BadBook)), csl_BadBook⟩) (xv_BadBook : vs_BadBook[2]? = some (.str fl_BadBook tf_BadBook)) (xf_BadBook : ((l.prog.main.file : Str) == fl_BadBook) = true)
    (xa_BadBook : excCB K C_BadBook = true) (xb_BadBook : err1B K C_BadBook FI_BadBook cda_BadBook "error" "BadBook.__init__" = true)
    {FI_TooMany cc_TooMany cda_TooMany : Addr} {kV_TooMany doc_TooMany pm_TooMany ct_TooMany oc_TooMany ccl_TooMany cl_TooMany : Value} {an_TooMany od_TooMany cdd_TooMany cld_TooMany : Option Addr} {osl_TooMany ccs_TooMany csl_TooMany : Array (Option Value)} {vs_TooMany : Array Value} {fl_TooMany : Str} {tf_TooMany : Tok}
    (xi_TooMany : PySem.W.findIn K (.ref C_TooMany) "__init__" = some (some (.ref FI_TooMany))) (xl_TooMany : K.lookup FI_TooMany = some ⟨oc_TooMany, od_TooMany, .func (PySem.W.ksFn "__init__" "TooMany.__init__" (defArgs i_TooMany) (defBody i_TooMany) (defScope i_TooMany) .none kV_TooMany doc_TooMany pm_TooMany an_TooMany (.ref cda_TooMany) ct_TooMany cc_TooMany), osl_TooMany⟩)
    (xk_TooMany : K.lookup cda_TooMany = some ⟨ccl_TooMany, cdd_TooMany, .fields vs_TooMany, ccs_TooMany⟩) (xe_TooMany : K.lookup cc_TooMany = some ⟨cl_TooMany, cld_TooMany, .cell (some (.ref C_TooMany)), csl_TooMany⟩) (xv_TooMany : vs_TooMany[2]? = some (.str fl_TooMany tf_TooMany)) (xf_TooMany : ((l.prog.main.file : Str) == fl_TooMany) = true)
    (xa_TooMany : excCB K C_TooMany = true) (xb_TooMany : err1B K C_TooMany FI_TooMany cda_TooMany "limit" "TooMany.__init__" = true)
    {FI_Unlevel cc_Unlevel cda_Unlevel : Addr} {kV_Unlevel doc_Unlevel pm_Unlevel ct_Unlevel oc_Unlevel ccl_Unlevel cl_Unlevel : Value} {an_Unlevel od_Unlevel cdd_Unlevel cld_Unlevel : Option Addr} {osl_Unlevel ccs_Unlevel csl_Unlevel : Array (Option Value)} {vs_Unlevel : Array Value} {fl_Unlevel : Str} {tf_Unlevel : Tok}
    (xi_Unlevel : PySem.W.findIn K (.ref C_Unlevel) "__init__" = some (some (.ref FI_Unlevel))) (xl_Unlevel : K.lookup FI_Unlevel = some ⟨oc_Unlevel, od_Unlevel, .func (PySem.W.ksFn "__init__" "Unlevel.__init__" (defArgs i_Unlevel) (defBody i_Unlevel) (defScope i_Unlevel) .none kV_Unlevel doc_Unlevel pm_Unlevel an_Unlevel (.ref cda_Unlevel) ct_Unlevel cc_Unlevel), osl_Unlevel⟩)
    (xk_Unlevel : K.lookup cda_Unlevel = some ⟨ccl_Unlevel, cdd_Unlevel, .fields vs_Unlevel, ccs_Unlevel⟩) (xe_Unlevel : K.lookup cc_Unlevel = some ⟨cl_Unlevel, cld_Unlevel, .cell (some (.ref C_Unlevel)), csl_Unlevel⟩) (xv_Unlevel : vs_Unlevel[2]? = some (.str fl_Unlevel tf_Unlevel)) (xf_Unlevel : ((l.prog.main.file : Str) == fl_Unlevel) = true)
    (xa_Unlevel : excCB K C_Unlevel = true) (xb_Unlevel : err1B K C_Unlevel FI_Unlevel cda_Unlevel "pair" "Unlevel.__init__" = true)
    {FI_NoVersion cc_NoVersion cda_NoVersion : Addr} {kV_NoVersion doc_NoVersion pm_NoVersion ct_NoVersion oc_NoVersion ccl_NoVersion cl_NoVersion : Value} {an_NoVersion od_NoVersion cdd_NoVersion cld_NoVersion : Option Addr} {osl_NoVersion ccs_NoVersion csl_NoVersion : Array (Option Value)} {vs_NoVersion : Array Value} {fl_NoVersion : Str} {tf_NoVersion : Tok}
    (xi_NoVersion : PySem.W.findIn K (.ref C_NoVersion) "__init__" = some (some (.ref FI_NoVersion))) (xl_NoVersion : K.lookup FI_NoVersion = some ⟨oc_NoVersion, od_NoVersion, .func (PySem.W.ksFn "__init__" "NoVersion.__init__" (defArgs i_NoVersion) (defBody i_NoVersion) (defScope i_NoVersion) .none kV_NoVersion doc_NoVersion pm_NoVersion an_NoVersion (.ref cda_NoVersion) ct_NoVersion cc_NoVersion), osl_NoVersion⟩)
    (xk_NoVersion : K.lookup cda_NoVersion = some ⟨ccl_NoVersion, cdd_NoVersion, .fields vs_NoVersion, ccs_NoVersion⟩) (xe_NoVersion : K.lookup cc_NoVersion = some ⟨cl_NoVersion, cld_NoVersion, .cell (some (.ref C_NoVersion)), csl_NoVersion⟩) (xv_NoVersion : vs_NoVersion[2]? = some (.str fl_NoVersion tf_NoVersion)) (xf_NoVersion : ((l.prog.main.file : Str) == fl_NoVersion) = true)
    (xa_NoVersion : excCB K C_NoVersion = true) (xb_NoVersion : err1B K C_NoVersion FI_NoVersion cda_NoVersion "given" "NoVersion.__init__" = true)
    {FI_BadLog cc_BadLog cda_BadLog : Addr} {kV_BadLog doc_BadLog pm_BadLog ct_BadLog oc_BadLog ccl_BadLog cl_BadLog : Value} {an_BadLog od_BadLog cdd_BadLog cld_BadLog : Option Addr} {osl_BadLog ccs_BadLog csl_BadLog : Array (Option Value)} {vs_BadLog : Array Value} {fl_BadLog : Str} {tf_BadLog : Tok}
    (xi_BadLog : PySem.W.findIn K (.ref C_BadLog) "__init__" = some (some (.ref FI_BadLog))) (xl_BadLog : K.lookup FI_BadLog = some ⟨oc_BadLog, od_BadLog, .func (PySem.W.ksFn "__init__" "BadLog.__init__" (defArgs i_BadLog) (defBody i_BadLog) (defScope i_BadLog) .none kV_BadLog doc_BadLog pm_BadLog an_BadLog (.ref cda_BadLog) ct_BadLog cc_BadLog), osl_BadLog⟩)
    (xk_BadLog : K.lookup cda_BadLog = some ⟨ccl_BadLog, cdd_BadLog, .fields vs_BadLog, ccs_BadLog⟩) (xe_BadLog : K.lookup cc_BadLog = some ⟨cl_BadLog, cld_BadLog, .cell (some (.ref C_BadLog)), csl_BadLog⟩) (xv_BadLog : vs_BadLog[2]? = some (.str fl_BadLog tf_BadLog)) (xf_BadLog : ((l.prog.main.file : Str) == fl_BadLog) = true)
    (xa_BadLog : excCB K C_BadLog = true) (xb_BadLog : err1B K C_BadLog FI_BadLog cda_BadLog "place" "BadLog.__init__" = true)
    (xa_Unfit : (excCB K C_Unfit && PySem.W.excIn K C_Unfit [.type "ValueError", .type "Exception", .type "BaseException", .type "object"] "ValueError.__new__") = true)
    (xa_BadText : (excCB K C_BadText && PySem.W.excIn K C_BadText [.type "ValueError", .type "Exception", .type "BaseException", .type "object"] "ValueError.__new__") = true)
    (xa_Level : (excCB K C_Level && PySem.W.excIn K C_Level [.type "ValueError", .type "Exception", .type "BaseException", .type "object"] "ValueError.__new__") = true)
    (xa_Few : (excCB K C_Few && PySem.W.excIn K C_Few [.type "ValueError", .type "Exception", .type "BaseException", .type "object"] "ValueError.__new__") = true)
    (xa_TooManyEdits : (excCB K C_TooManyEdits && PySem.W.excIn K C_TooManyEdits [.type "ValueError", .type "Exception", .type "BaseException", .type "object"] "ValueError.__new__") = true)
    (xa_NothingToUndo : (excCB K C_NothingToUndo && PySem.W.excIn K C_NothingToUndo [.type "ValueError", .type "Exception", .type "BaseException", .type "object"] "ValueError.__new__") = true)
    (xa_NothingToRedo : (excCB K C_NothingToRedo && PySem.W.excIn K C_NothingToRedo [.type "ValueError", .type "Exception", .type "BaseException", .type "object"] "ValueError.__new__") = true)
    (xs : PySem.W.nsIn K mainGlobals "super" = some none) (xt : (l.prog.main.scope.names.lookup ("super" : Str)).isSome = false)
    (xw_BadBook : nameB K "BadBook" C_BadBook = true)
    (xw_TooMany : nameB K "TooMany" C_TooMany = true)
    (xw_Unlevel : nameB K "Unlevel" C_Unlevel = true)
    (xw_NoVersion : nameB K "NoVersion" C_NoVersion = true)
    (xw_BadLog : nameB K "BadLog" C_BadLog = true)
    (xq_BadBook : isEB K "BadBook" (.ref C_BadBook) = true)
    (xq_TooMany : isEB K "TooMany" (.ref C_TooMany) = true)
    (xq_Unlevel : isEB K "Unlevel" (.ref C_Unlevel) = true)
    (xq_NoVersion : isEB K "NoVersion" (.ref C_NoVersion) = true)
    (xq_BadLog : isEB K "BadLog" (.ref C_BadLog) = true)
    (xq_Unfit : isEB K "Unfit" (.ref C_Unfit) = true)
    (xq_BadText : isEB K "BadText" (.ref C_BadText) = true)
    (xq_Level : isEB K "Level" (.ref C_Level) = true)
    (xq_Few : isEB K "Few" (.ref C_Few) = true)
    (xq_TooManyEdits : isEB K "TooManyEdits" (.ref C_TooManyEdits) = true)
    (xq_NothingToUndo : isEB K "NothingToUndo" (.ref C_NothingToUndo) = true)
    (xq_NothingToRedo : isEB K "NothingToRedo" (.ref C_NothingToRedo) = true)
    (xq_ValueError : isEB K "ValueError" (.type "ValueError") = true)
    (xq_FieldsError : isEB K "FieldsError" (.ref C_FieldsError) = true)
    (xw_Unfit : nameB K "Unfit" C_Unfit = true)
    (xw_BadText : nameB K "BadText" C_BadText = true)
    (xw_Level : nameB K "Level" C_Level = true)
    (xw_Few : nameB K "Few" C_Few = true)
    (xw_TooManyEdits : nameB K "TooManyEdits" C_TooManyEdits = true)
    (xw_NothingToUndo : nameB K "NothingToUndo" C_NothingToUndo = true)
    (xw_NothingToRedo : nameB K "NothingToRedo" C_NothingToRedo = true)
    (kv_VE_FieldsError : PySem.W.kitOne K (.type "ValueError") (.ref C_FieldsError) = some false)
    : ∃ fd : FuncData, (∀ (s : Shared) (v : Value), BindsTo s fd ⟨[v], []⟩ [("script", v)]) ∧ ∀ base : Heap, K.In base → base.Ns mainGlobals mg → Fg l.prog w K mg base 6 fa fd ["script"] (spF K (run tbl 6 531)) := by
  have e := hfa.symm.trans (PySem.W.mg_of X G a7)
  cases e
  refine ⟨PySem.W.fnOf "law" "law" (defArgs s_law) (defBody s_law) (defScope s_law) .none kV7 dc7 pm7 an7 cd7 ct7, fun s v => .of_eq rfl, fun base _ _ => ?_⟩
  have D0 : DefIn K mg s_q_law_deck "_law_deck" := ⟨f0, oc0, od0, kV0, dc0, pm0, an0, cd0, ct0, sl0, l0, c0, PySem.W.mg_of X G a0, k0⟩
  have D1 : DefIn K mg s_q_law_made "_law_made" := ⟨f1, oc1, od1, kV1, dc1, pm1, an1, cd1, ct1, sl1, l1, c1, PySem.W.mg_of X G a1, k1⟩
  have D2 : DefIn K mg s_q_law_is_kind "_law_is_kind" := ⟨f2, oc2, od2, kV2, dc2, pm2, an2, cd2, ct2, sl2, l2, c2, PySem.W.mg_of X G a2, k2⟩
  have D3 : DefIn K mg s_q_law_draw "_law_draw" := ⟨f3, oc3, od3, kV3, dc3, pm3, an3, cd3, ct3, sl3, l3, c3, PySem.W.mg_of X G a3, k3⟩
  have D4 : DefIn K mg s_q_law_pick "_law_pick" := ⟨f4, oc4, od4, kV4, dc4, pm4, an4, cd4, ct4, sl4, l4, c4, PySem.W.mg_of X G a4, k4⟩
  have D5 : DefIn K mg s_q_law_any "_law_any" := ⟨f5, oc5, od5, kV5, dc5, pm5, an5, cd5, ct5, sl5, l5, c5, PySem.W.mg_of X G a5, k5⟩
  have D6 : DefIn K mg s_q_law_bare "_law_bare" := ⟨f6, oc6, od6, kV6, dc6, pm6, an6, cd6, ct6, sl6, l6, c6, PySem.W.mg_of X G a6, k6⟩
  have D7 : DefIn K mg s_law "law" := ⟨fa, oc7, od7, kV7, dc7, pm7, an7, cd7, ct7, sl7, l7, c7, PySem.W.mg_of X G a7, k7⟩
  have m0 := PySem.W.mg_none_of X G z0
  have m1 := PySem.W.mg_none_of X G z1
  have m2 := PySem.W.mg_none_of X G z2
  have m3 := PySem.W.mg_none_of X G z3
  have m4 := PySem.W.mg_none_of X G z4
  have m5 := PySem.W.mg_none_of X G z5
  have m6 := PySem.W.mg_none_of X G z6
  have m7 := PySem.W.mg_none_of X G z7
  have e_BadBook : Err1 l.prog K mg "BadBook" C_BadBook := err1_by rfl I_BadBook (fun _ _ => rfl) (fun _ _ => rfl) (PySem.W.mg_of X G xg_BadBook) (PySem.W.mg_none_of X G xs) xi_BadBook xl_BadBook xk_BadBook xe_BadBook xv_BadBook xf_BadBook xt xa_BadBook xb_BadBook xw_BadBook
  have e_TooMany : Err1 l.prog K mg "TooMany" C_TooMany := err1_by rfl I_TooMany (fun _ _ => rfl) (fun _ _ => rfl) (PySem.W.mg_of X G xg_TooMany) (PySem.W.mg_none_of X G xs) xi_TooMany xl_TooMany xk_TooMany xe_TooMany xv_TooMany xf_TooMany xt xa_TooMany xb_TooMany xw_TooMany
  have e_Unlevel : Err1 l.prog K mg "Unlevel" C_Unlevel := err1_by rfl I_Unlevel (fun _ _ => rfl) (fun _ _ => rfl) (PySem.W.mg_of X G xg_Unlevel) (PySem.W.mg_none_of X G xs) xi_Unlevel xl_Unlevel xk_Unlevel xe_Unlevel xv_Unlevel xf_Unlevel xt xa_Unlevel xb_Unlevel xw_Unlevel
  have e_NoVersion : Err1 l.prog K mg "NoVersion" C_NoVersion := err1_by rfl I_NoVersion (fun _ _ => rfl) (fun _ _ => rfl) (PySem.W.mg_of X G xg_NoVersion) (PySem.W.mg_none_of X G xs) xi_NoVersion xl_NoVersion xk_NoVersion xe_NoVersion xv_NoVersion xf_NoVersion xt xa_NoVersion xb_NoVersion xw_NoVersion
  have e_BadLog : Err1 l.prog K mg "BadLog" C_BadLog := err1_by rfl I_BadLog (fun _ _ => rfl) (fun _ _ => rfl) (PySem.W.mg_of X G xg_BadLog) (PySem.W.mg_none_of X G xs) xi_BadLog xl_BadLog xk_BadLog xe_BadLog xv_BadLog xf_BadLog xt xa_BadLog xb_BadLog xw_BadLog
  have mc_BadBook := PySem.W.mg_of X G xg_BadBook
  have is_BadBook := isEB_ok xq_BadBook
  have mc_TooMany := PySem.W.mg_of X G xg_TooMany
  have is_TooMany := isEB_ok xq_TooMany
  have mc_Unlevel := PySem.W.mg_of X G xg_Unlevel
  have is_Unlevel := isEB_ok xq_Unlevel
  have mc_NoVersion := PySem.W.mg_of X G xg_NoVersion
  have is_NoVersion := isEB_ok xq_NoVersion
  have mc_BadLog := PySem.W.mg_of X G xg_BadLog
  have is_BadLog := isEB_ok xq_BadLog
  have mc_Unfit := PySem.W.mg_of X G xg_Unfit
  have is_Unfit := isEB_ok xq_Unfit
  have mc_BadText := PySem.W.mg_of X G xg_BadText
  have is_BadText := isEB_ok xq_BadText
  have mc_Level := PySem.W.mg_of X G xg_Level
  have is_Level := isEB_ok xq_Level
  have mc_Few := PySem.W.mg_of X G xg_Few
  have is_Few := isEB_ok xq_Few
  have mc_TooManyEdits := PySem.W.mg_of X G xg_TooManyEdits
  have is_TooManyEdits := isEB_ok xq_TooManyEdits
  have mc_NothingToUndo := PySem.W.mg_of X G xg_NothingToUndo
  have is_NothingToUndo := isEB_ok xq_NothingToUndo
  have mc_NothingToRedo := PySem.W.mg_of X G xg_NothingToRedo
  have is_NothingToRedo := isEB_ok xq_NothingToRedo
  have is_ValueError := isEB_ok xq_ValueError
  have mc_FieldsError := PySem.W.mg_of X G xg_FieldsError
  have is_FieldsError := isEB_ok xq_FieldsError
  have e_Unfit : Err0 K mg "Unfit" C_Unfit := err0_by (PySem.W.mg_of X G xg_Unfit) xa_Unfit xw_Unfit
  have e_BadText : Err0 K mg "BadText" C_BadText := err0_by (PySem.W.mg_of X G xg_BadText) xa_BadText xw_BadText
  have e_Level : Err0 K mg "Level" C_Level := err0_by (PySem.W.mg_of X G xg_Level) xa_Level xw_Level
  have e_Few : Err0 K mg "Few" C_Few := err0_by (PySem.W.mg_of X G xg_Few) xa_Few xw_Few
  have e_TooManyEdits : Err0 K mg "TooManyEdits" C_TooManyEdits := err0_by (PySem.W.mg_of X G xg_TooManyEdits) xa_TooManyEdits xw_TooManyEdits
  have e_NothingToUndo : Err0 K mg "NothingToUndo" C_NothingToUndo := err0_by (PySem.W.mg_of X G xg_NothingToUndo) xa_NothingToUndo xw_NothingToUndo
  have e_NothingToRedo : Err0 K mg "NothingToRedo" C_NothingToRedo := err0_by (PySem.W.mg_of X G xg_NothingToRedo) xa_NothingToRedo xw_NothingToRedo
  have I : All l.prog w K mg base 5 := all_ok D0 D1 D2 D3 D4 D5 D6 D7 m0 m1 m2 m3 m4 m5 m6 m7  e_BadBook e_TooMany e_Unlevel e_NoVersion e_BadLog mc_BadBook is_BadBook mc_TooMany is_TooMany mc_Unlevel is_Unlevel mc_NoVersion is_NoVersion mc_BadLog is_BadLog mc_Unfit is_Unfit mc_BadText is_BadText mc_Level is_Level mc_Few is_Few mc_TooManyEdits is_TooManyEdits mc_NothingToUndo is_NothingToUndo mc_NothingToRedo is_NothingToRedo is_ValueError mc_FieldsError is_FieldsError e_Unfit e_BadText e_Level e_Few e_TooManyEdits e_NothingToUndo e_NothingToRedo kv_VE_FieldsError 5
  exact (fg_def l7 c7 S_law rfl rfl (b_law I.c_q_law_deck I.c_q_law_any I.c_q_law_draw I.c_q_law_made I.c_q_law_is_kind I.c_q_law_bare m5 m3 m6 m0 mc_FieldsError kv_VE_FieldsError) : Fg l.prog w K mg base (5 + 1) _ _ _ (spF K (runDef (run tbl 5) d_law)))
end
end FF.k54

/-! Tk54: errors of all classes. -/
namespace FF.k54
open PySem PySem.Spec L2 FF
theorem strC {s : Str} {n : Nat} (h : (s.cps.toList.all fun c => decide (c < 1114112)) = true) (l : s.cps.size ≤ n) : VF n 0 (.str s) := vf_str (fun c hc => of_decide_eq_true (List.all_eq_true.mp h c hc)) l
theorem o_isE {c f : String} {ds : List D} {h : Hq} {P : D × Hq → Prop} (hc : errNames.contains c = true) (p : P (.bl (subX c f), h)) : OkO (biD (.isE f) false [.exn c ds] h) P := by
  refine ⟨_, ?_, p⟩
  show isED f (.exn c ds) h = _
  unfold isED
  dsimp only
  rw [if_pos hc]
def nm12 : List String := ["BadBook", "TooMany", "Unlevel", "NoVersion", "BadLog", "Unfit", "BadText", "Level", "Few", "TooManyEdits", "NothingToUndo", "NothingToRedo"]
/-! ### errors made -/
def MadeOk (f : List D → Hq → R (D × Hq)) : Prop := ∀ (w : Nat) (v : D) (g : Bool) (h : Hq), w < 5 → v.pure = true → Wp (f [.int w, v, .bl g] h) fun p => p = (.tup [.exn (nm12.getD w "") [v], v], h)
theorem made_ok {φ : Fn} : MadeOk (runDef φ d_q_law_made) := by
  intro w v g h hw pv
  have k : w = 0 ∨ w = 1 ∨ w = 2 ∨ w = 3 ∨ w = 4 := by omega
  have pr : ∀ c : String, (D.tup [.exn c [v], v]).pure = true := fun c => by simp [D.pure, D.pures, pv]
  rcases k with rfl | rfl | rfl | rfl | rfl
  · refine pure_def rfl rfl (by simp [D.pures, D.pure, pv]) (pr _) ?_
    cases g with
    | true =>
      refine FF.x_cons ?_
      refine FF.x_ite ?_
      refine FF.x_cmp ?_
      refine FF.x_var (by rfl) ?_
      refine FF.x_const ?_
      refine FF.OkO.of rfl ?_
      refine FF.OkO.of rfl ?_
      refine FF.Cd.tt ?_
      refine FF.x_cons ?_
      refine FF.x_set ?_
      refine FF.x_ife ?_
      refine FF.x_var (by rfl) ?_
      refine FF.OkO.of rfl ?_
      refine FF.Cd.tt ?_
      refine FF.x_bi ?_
      refine FF.x_acons ?_
      refine FF.x_var (by rfl) ?_
      refine FF.x_anil ?_
      refine FF.OkO.of rfl ?_
      refine FF.OkO.of rfl ?_
      refine FF.nxt_nx ?_
      try dsimp only [List.set_cons_zero, List.set_cons_succ]
      refine FF.x_cons ?_
      refine FF.x_ret ?_
      refine FF.x_tup ?_
      refine FF.x_acons ?_
      refine FF.x_var (by rfl) ?_
      refine FF.x_acons ?_
      refine FF.x_bi ?_
      refine FF.x_acons ?_
      refine FF.x_var (by rfl) ?_
      refine FF.x_anil ?_
      refine FF.OkO.of rfl ?_
      refine FF.x_anil ?_
      refine FF.OkO.of rfl ?_
      refine FF.nxt_rt ?_
      try dsimp only [List.set_cons_zero, List.set_cons_succ]
      refine FF.nxt_rt ?_
      try dsimp only [List.set_cons_zero, List.set_cons_succ]
      refine FF.end_rt ?_
      try dsimp only [List.set_cons_zero, List.set_cons_succ]
      exact thaw1_pure (pr _)
    | false =>
      refine FF.x_cons ?_
      refine FF.x_ite ?_
      refine FF.x_cmp ?_
      refine FF.x_var (by rfl) ?_
      refine FF.x_const ?_
      refine FF.OkO.of rfl ?_
      refine FF.OkO.of rfl ?_
      refine FF.Cd.tt ?_
      refine FF.x_cons ?_
      refine FF.x_set ?_
      refine FF.x_ife ?_
      refine FF.x_var (by rfl) ?_
      refine FF.OkO.of rfl ?_
      refine FF.Cd.ff ?_
      refine FF.x_bi ?_
      refine FF.x_acons ?_
      refine FF.x_var (by rfl) ?_
      refine FF.x_anil ?_
      refine FF.OkO.of rfl ?_
      refine FF.OkO.of rfl ?_
      refine FF.nxt_nx ?_
      try dsimp only [List.set_cons_zero, List.set_cons_succ]
      refine FF.x_cons ?_
      refine FF.x_ret ?_
      refine FF.x_tup ?_
      refine FF.x_acons ?_
      refine FF.x_var (by rfl) ?_
      refine FF.x_acons ?_
      refine FF.x_bi ?_
      refine FF.x_acons ?_
      refine FF.x_var (by rfl) ?_
      refine FF.x_anil ?_
      refine FF.OkO.of rfl ?_
      refine FF.x_anil ?_
      refine FF.OkO.of rfl ?_
      refine FF.nxt_rt ?_
      try dsimp only [List.set_cons_zero, List.set_cons_succ]
      refine FF.nxt_rt ?_
      try dsimp only [List.set_cons_zero, List.set_cons_succ]
      refine FF.end_rt ?_
      try dsimp only [List.set_cons_zero, List.set_cons_succ]
      exact thaw1_pure (pr _)
  · refine pure_def rfl rfl (by simp [D.pures, D.pure, pv]) (pr _) ?_
    cases g with
    | true =>
      refine FF.x_cons ?_
      refine FF.x_ite ?_
      refine FF.x_cmp ?_
      refine FF.x_var (by rfl) ?_
      refine FF.x_const ?_
      refine FF.OkO.of rfl ?_
      refine FF.OkO.of rfl ?_
      refine FF.Cd.ff ?_
      refine FF.x_nil ?_
      refine FF.nxt_nx ?_
      try dsimp only [List.set_cons_zero, List.set_cons_succ]
      refine FF.x_cons ?_
      refine FF.x_ite ?_
      refine FF.x_cmp ?_
      refine FF.x_var (by rfl) ?_
      refine FF.x_const ?_
      refine FF.OkO.of rfl ?_
      refine FF.OkO.of rfl ?_
      refine FF.Cd.tt ?_
      refine FF.x_cons ?_
      refine FF.x_set ?_
      refine FF.x_ife ?_
      refine FF.x_var (by rfl) ?_
      refine FF.OkO.of rfl ?_
      refine FF.Cd.tt ?_
      refine FF.x_bi ?_
      refine FF.x_acons ?_
      refine FF.x_var (by rfl) ?_
      refine FF.x_anil ?_
      refine FF.OkO.of rfl ?_
      refine FF.OkO.of rfl ?_
      refine FF.nxt_nx ?_
      try dsimp only [List.set_cons_zero, List.set_cons_succ]
      refine FF.x_cons ?_
      refine FF.x_ret ?_
      refine FF.x_tup ?_
      refine FF.x_acons ?_
      refine FF.x_var (by rfl) ?_
      refine FF.x_acons ?_
      refine FF.x_bi ?_
      refine FF.x_acons ?_
      refine FF.x_var (by rfl) ?_
      refine FF.x_anil ?_
      refine FF.OkO.of rfl ?_
      refine FF.x_anil ?_
      refine FF.OkO.of rfl ?_
      refine FF.nxt_rt ?_
      try dsimp only [List.set_cons_zero, List.set_cons_succ]
      refine FF.nxt_rt ?_
      try dsimp only [List.set_cons_zero, List.set_cons_succ]
      refine FF.end_rt ?_
      try dsimp only [List.set_cons_zero, List.set_cons_succ]
      exact thaw1_pure (pr _)
    | false =>
      refine FF.x_cons ?_
      refine FF.x_ite ?_
      refine FF.x_cmp ?_
      refine FF.x_var (by rfl) ?_
      refine FF.x_const ?_
      refine FF.OkO.of rfl ?_
      refine FF.OkO.of rfl ?_
      refine FF.Cd.ff ?_
      refine FF.x_nil ?_
      refine FF.nxt_nx ?_
      try dsimp only [List.set_cons_zero, List.set_cons_succ]
      refine FF.x_cons ?_
      refine FF.x_ite ?_
      refine FF.x_cmp ?_
      refine FF.x_var (by rfl) ?_
      refine FF.x_const ?_
      refine FF.OkO.of rfl ?_
      refine FF.OkO.of rfl ?_
      refine FF.Cd.tt ?_
      refine FF.x_cons ?_
      refine FF.x_set ?_
      refine FF.x_ife ?_
      refine FF.x_var (by rfl) ?_
      refine FF.OkO.of rfl ?_
      refine FF.Cd.ff ?_
      refine FF.x_bi ?_
      refine FF.x_acons ?_
      refine FF.x_var (by rfl) ?_
      refine FF.x_anil ?_
      refine FF.OkO.of rfl ?_
      refine FF.OkO.of rfl ?_
      refine FF.nxt_nx ?_
      try dsimp only [List.set_cons_zero, List.set_cons_succ]
      refine FF.x_cons ?_
      refine FF.x_ret ?_
      refine FF.x_tup ?_
      refine FF.x_acons ?_
      refine FF.x_var (by rfl) ?_
      refine FF.x_acons ?_
      refine FF.x_bi ?_
      refine FF.x_acons ?_
      refine FF.x_var (by rfl) ?_
      refine FF.x_anil ?_
      refine FF.OkO.of rfl ?_
      refine FF.x_anil ?_
      refine FF.OkO.of rfl ?_
      refine FF.nxt_rt ?_
      try dsimp only [List.set_cons_zero, List.set_cons_succ]
      refine FF.nxt_rt ?_
      try dsimp only [List.set_cons_zero, List.set_cons_succ]
      refine FF.end_rt ?_
      try dsimp only [List.set_cons_zero, List.set_cons_succ]
      exact thaw1_pure (pr _)
  · refine pure_def rfl rfl (by simp [D.pures, D.pure, pv]) (pr _) ?_
    cases g with
    | true =>
      refine FF.x_cons ?_
      refine FF.x_ite ?_
      refine FF.x_cmp ?_
      refine FF.x_var (by rfl) ?_
      refine FF.x_const ?_
      refine FF.OkO.of rfl ?_
      refine FF.OkO.of rfl ?_
      refine FF.Cd.ff ?_
      refine FF.x_nil ?_
      refine FF.nxt_nx ?_
      try dsimp only [List.set_cons_zero, List.set_cons_succ]
      refine FF.x_cons ?_
      refine FF.x_ite ?_
      refine FF.x_cmp ?_
      refine FF.x_var (by rfl) ?_
      refine FF.x_const ?_
      refine FF.OkO.of rfl ?_
      refine FF.OkO.of rfl ?_
      refine FF.Cd.ff ?_
      refine FF.x_nil ?_
      refine FF.nxt_nx ?_
      try dsimp only [List.set_cons_zero, List.set_cons_succ]
      refine FF.x_cons ?_
      refine FF.x_ite ?_
      refine FF.x_cmp ?_
      refine FF.x_var (by rfl) ?_
      refine FF.x_const ?_
      refine FF.OkO.of rfl ?_
      refine FF.OkO.of rfl ?_
      refine FF.Cd.tt ?_
      refine FF.x_cons ?_
      refine FF.x_set ?_
      refine FF.x_ife ?_
      refine FF.x_var (by rfl) ?_
      refine FF.OkO.of rfl ?_
      refine FF.Cd.tt ?_
      refine FF.x_bi ?_
      refine FF.x_acons ?_
      refine FF.x_var (by rfl) ?_
      refine FF.x_anil ?_
      refine FF.OkO.of rfl ?_
      refine FF.OkO.of rfl ?_
      refine FF.nxt_nx ?_
      try dsimp only [List.set_cons_zero, List.set_cons_succ]
      refine FF.x_cons ?_
      refine FF.x_ret ?_
      refine FF.x_tup ?_
      refine FF.x_acons ?_
      refine FF.x_var (by rfl) ?_
      refine FF.x_acons ?_
      refine FF.x_bi ?_
      refine FF.x_acons ?_
      refine FF.x_var (by rfl) ?_
      refine FF.x_anil ?_
      refine FF.OkO.of rfl ?_
      refine FF.x_anil ?_
      refine FF.OkO.of rfl ?_
      refine FF.nxt_rt ?_
      try dsimp only [List.set_cons_zero, List.set_cons_succ]
      refine FF.nxt_rt ?_
      try dsimp only [List.set_cons_zero, List.set_cons_succ]
      refine FF.end_rt ?_
      try dsimp only [List.set_cons_zero, List.set_cons_succ]
      exact thaw1_pure (pr _)
    | false =>
      refine FF.x_cons ?_
      refine FF.x_ite ?_
      refine FF.x_cmp ?_
      refine FF.x_var (by rfl) ?_
      refine FF.x_const ?_
      refine FF.OkO.of rfl ?_
      refine FF.OkO.of rfl ?_
      refine FF.Cd.ff ?_
      refine FF.x_nil ?_
      refine FF.nxt_nx ?_
      try dsimp only [List.set_cons_zero, List.set_cons_succ]
      refine FF.x_cons ?_
      refine FF.x_ite ?_
      refine FF.x_cmp ?_
      refine FF.x_var (by rfl) ?_
      refine FF.x_const ?_
      refine FF.OkO.of rfl ?_
      refine FF.OkO.of rfl ?_
      refine FF.Cd.ff ?_
      refine FF.x_nil ?_
      refine FF.nxt_nx ?_
      try dsimp only [List.set_cons_zero, List.set_cons_succ]
      refine FF.x_cons ?_
      refine FF.x_ite ?_
      refine FF.x_cmp ?_
      refine FF.x_var (by rfl) ?_
      refine FF.x_const ?_
      refine FF.OkO.of rfl ?_
      refine FF.OkO.of rfl ?_
      refine FF.Cd.tt ?_
      refine FF.x_cons ?_
      refine FF.x_set ?_
      refine FF.x_ife ?_
      refine FF.x_var (by rfl) ?_
      refine FF.OkO.of rfl ?_
      refine FF.Cd.ff ?_
      refine FF.x_bi ?_
      refine FF.x_acons ?_
      refine FF.x_var (by rfl) ?_
      refine FF.x_anil ?_
      refine FF.OkO.of rfl ?_
      refine FF.OkO.of rfl ?_
      refine FF.nxt_nx ?_
      try dsimp only [List.set_cons_zero, List.set_cons_succ]
      refine FF.x_cons ?_
      refine FF.x_ret ?_
      refine FF.x_tup ?_
      refine FF.x_acons ?_
      refine FF.x_var (by rfl) ?_
      refine FF.x_acons ?_
      refine FF.x_bi ?_
      refine FF.x_acons ?_
      refine FF.x_var (by rfl) ?_
      refine FF.x_anil ?_
      refine FF.OkO.of rfl ?_
      refine FF.x_anil ?_
      refine FF.OkO.of rfl ?_
      refine FF.nxt_rt ?_
      try dsimp only [List.set_cons_zero, List.set_cons_succ]
      refine FF.nxt_rt ?_
      try dsimp only [List.set_cons_zero, List.set_cons_succ]
      refine FF.end_rt ?_
      try dsimp only [List.set_cons_zero, List.set_cons_succ]
      exact thaw1_pure (pr _)
  · refine pure_def rfl rfl (by simp [D.pures, D.pure, pv]) (pr _) ?_
    cases g with
    | true =>
      refine FF.x_cons ?_
      refine FF.x_ite ?_
      refine FF.x_cmp ?_
      refine FF.x_var (by rfl) ?_
      refine FF.x_const ?_
      refine FF.OkO.of rfl ?_
      refine FF.OkO.of rfl ?_
      refine FF.Cd.ff ?_
      refine FF.x_nil ?_
      refine FF.nxt_nx ?_
      try dsimp only [List.set_cons_zero, List.set_cons_succ]
      refine FF.x_cons ?_
      refine FF.x_ite ?_
      refine FF.x_cmp ?_
      refine FF.x_var (by rfl) ?_
      refine FF.x_const ?_
      refine FF.OkO.of rfl ?_
      refine FF.OkO.of rfl ?_
      refine FF.Cd.ff ?_
      refine FF.x_nil ?_
      refine FF.nxt_nx ?_
      try dsimp only [List.set_cons_zero, List.set_cons_succ]
      refine FF.x_cons ?_
      refine FF.x_ite ?_
      refine FF.x_cmp ?_
      refine FF.x_var (by rfl) ?_
      refine FF.x_const ?_
      refine FF.OkO.of rfl ?_
      refine FF.OkO.of rfl ?_
      refine FF.Cd.ff ?_
      refine FF.x_nil ?_
      refine FF.nxt_nx ?_
      try dsimp only [List.set_cons_zero, List.set_cons_succ]
      refine FF.x_cons ?_
      refine FF.x_ite ?_
      refine FF.x_cmp ?_
      refine FF.x_var (by rfl) ?_
      refine FF.x_const ?_
      refine FF.OkO.of rfl ?_
      refine FF.OkO.of rfl ?_
      refine FF.Cd.tt ?_
      refine FF.x_cons ?_
      refine FF.x_set ?_
      refine FF.x_ife ?_
      refine FF.x_var (by rfl) ?_
      refine FF.OkO.of rfl ?_
      refine FF.Cd.tt ?_
      refine FF.x_bi ?_
      refine FF.x_acons ?_
      refine FF.x_var (by rfl) ?_
      refine FF.x_anil ?_
      refine FF.OkO.of rfl ?_
      refine FF.OkO.of rfl ?_
      refine FF.nxt_nx ?_
      try dsimp only [List.set_cons_zero, List.set_cons_succ]
      refine FF.x_cons ?_
      refine FF.x_ret ?_
      refine FF.x_tup ?_
      refine FF.x_acons ?_
      refine FF.x_var (by rfl) ?_
      refine FF.x_acons ?_
      refine FF.x_bi ?_
      refine FF.x_acons ?_
      refine FF.x_var (by rfl) ?_
      refine FF.x_anil ?_
      refine FF.OkO.of rfl ?_
      refine FF.x_anil ?_
      refine FF.OkO.of rfl ?_
      refine FF.nxt_rt ?_
      try dsimp only [List.set_cons_zero, List.set_cons_succ]
      refine FF.nxt_rt ?_
      try dsimp only [List.set_cons_zero, List.set_cons_succ]
      refine FF.end_rt ?_
      try dsimp only [List.set_cons_zero, List.set_cons_succ]
      exact thaw1_pure (pr _)
    | false =>
      refine FF.x_cons ?_
      refine FF.x_ite ?_
      refine FF.x_cmp ?_
      refine FF.x_var (by rfl) ?_
      refine FF.x_const ?_
      refine FF.OkO.of rfl ?_
      refine FF.OkO.of rfl ?_
      refine FF.Cd.ff ?_
      refine FF.x_nil ?_
      refine FF.nxt_nx ?_
      try dsimp only [List.set_cons_zero, List.set_cons_succ]
      refine FF.x_cons ?_
      refine FF.x_ite ?_
      refine FF.x_cmp ?_
      refine FF.x_var (by rfl) ?_
      refine FF.x_const ?_
      refine FF.OkO.of rfl ?_
      refine FF.OkO.of rfl ?_
      refine FF.Cd.ff ?_
      refine FF.x_nil ?_
      refine FF.nxt_nx ?_
      try dsimp only [List.set_cons_zero, List.set_cons_succ]
      refine FF.x_cons ?_
      refine FF.x_ite ?_
      refine FF.x_cmp ?_
      refine FF.x_var (by rfl) ?_
      refine FF.x_const ?_
      refine FF.OkO.of rfl ?_
      refine FF.OkO.of rfl ?_
      refine FF.Cd.ff ?_
      refine FF.x_nil ?_
      refine FF.nxt_nx ?_
      try dsimp only [List.set_cons_zero, List.set_cons_succ]
      refine FF.x_cons ?_
      refine FF.x_ite ?_
      refine FF.x_cmp ?_
      refine FF.x_var (by rfl) ?_
      refine FF.x_const ?_
      refine FF.OkO.of rfl ?_
      refine FF.OkO.of rfl ?_
      refine FF.Cd.tt ?_
      refine FF.x_cons ?_
      refine FF.x_set ?_
      refine FF.x_ife ?_
      refine FF.x_var (by rfl) ?_
      refine FF.OkO.of rfl ?_
      refine FF.Cd.ff ?_
      refine FF.x_bi ?_
      refine FF.x_acons ?_
      refine FF.x_var (by rfl) ?_
      refine FF.x_anil ?_
      refine FF.OkO.of rfl ?_
      refine FF.OkO.of rfl ?_
      refine FF.nxt_nx ?_
      try dsimp only [List.set_cons_zero, List.set_cons_succ]
      refine FF.x_cons ?_
      refine FF.x_ret ?_
      refine FF.x_tup ?_
      refine FF.x_acons ?_
      refine FF.x_var (by rfl) ?_
      refine FF.x_acons ?_
      refine FF.x_bi ?_
      refine FF.x_acons ?_
      refine FF.x_var (by rfl) ?_
      refine FF.x_anil ?_
      refine FF.OkO.of rfl ?_
      refine FF.x_anil ?_
      refine FF.OkO.of rfl ?_
      refine FF.nxt_rt ?_
      try dsimp only [List.set_cons_zero, List.set_cons_succ]
      refine FF.nxt_rt ?_
      try dsimp only [List.set_cons_zero, List.set_cons_succ]
      refine FF.end_rt ?_
      try dsimp only [List.set_cons_zero, List.set_cons_succ]
      exact thaw1_pure (pr _)
  · refine pure_def rfl rfl (by simp [D.pures, D.pure, pv]) (pr _) ?_
    cases g with
    | true =>
      refine FF.x_cons ?_
      refine FF.x_ite ?_
      refine FF.x_cmp ?_
      refine FF.x_var (by rfl) ?_
      refine FF.x_const ?_
      refine FF.OkO.of rfl ?_
      refine FF.OkO.of rfl ?_
      refine FF.Cd.ff ?_
      refine FF.x_nil ?_
      refine FF.nxt_nx ?_
      try dsimp only [List.set_cons_zero, List.set_cons_succ]
      refine FF.x_cons ?_
      refine FF.x_ite ?_
      refine FF.x_cmp ?_
      refine FF.x_var (by rfl) ?_
      refine FF.x_const ?_
      refine FF.OkO.of rfl ?_
      refine FF.OkO.of rfl ?_
      refine FF.Cd.ff ?_
      refine FF.x_nil ?_
      refine FF.nxt_nx ?_
      try dsimp only [List.set_cons_zero, List.set_cons_succ]
      refine FF.x_cons ?_
      refine FF.x_ite ?_
      refine FF.x_cmp ?_
      refine FF.x_var (by rfl) ?_
      refine FF.x_const ?_
      refine FF.OkO.of rfl ?_
      refine FF.OkO.of rfl ?_
      refine FF.Cd.ff ?_
      refine FF.x_nil ?_
      refine FF.nxt_nx ?_
      try dsimp only [List.set_cons_zero, List.set_cons_succ]
      refine FF.x_cons ?_
      refine FF.x_ite ?_
      refine FF.x_cmp ?_
      refine FF.x_var (by rfl) ?_
      refine FF.x_const ?_
      refine FF.OkO.of rfl ?_
      refine FF.OkO.of rfl ?_
      refine FF.Cd.ff ?_
      refine FF.x_nil ?_
      refine FF.nxt_nx ?_
      try dsimp only [List.set_cons_zero, List.set_cons_succ]
      refine FF.x_cons ?_
      refine FF.x_set ?_
      refine FF.x_ife ?_
      refine FF.x_var (by rfl) ?_
      refine FF.OkO.of rfl ?_
      refine FF.Cd.tt ?_
      refine FF.x_bi ?_
      refine FF.x_acons ?_
      refine FF.x_var (by rfl) ?_
      refine FF.x_anil ?_
      refine FF.OkO.of rfl ?_
      refine FF.OkO.of rfl ?_
      refine FF.nxt_nx ?_
      try dsimp only [List.set_cons_zero, List.set_cons_succ]
      refine FF.x_cons ?_
      refine FF.x_ret ?_
      refine FF.x_tup ?_
      refine FF.x_acons ?_
      refine FF.x_var (by rfl) ?_
      refine FF.x_acons ?_
      refine FF.x_bi ?_
      refine FF.x_acons ?_
      refine FF.x_var (by rfl) ?_
      refine FF.x_anil ?_
      refine FF.OkO.of rfl ?_
      refine FF.x_anil ?_
      refine FF.OkO.of rfl ?_
      refine FF.nxt_rt ?_
      try dsimp only [List.set_cons_zero, List.set_cons_succ]
      refine FF.end_rt ?_
      try dsimp only [List.set_cons_zero, List.set_cons_succ]
      exact thaw1_pure (pr _)
    | false =>
      refine FF.x_cons ?_
      refine FF.x_ite ?_
      refine FF.x_cmp ?_
      refine FF.x_var (by rfl) ?_
      refine FF.x_const ?_
      refine FF.OkO.of rfl ?_
      refine FF.OkO.of rfl ?_
      refine FF.Cd.ff ?_
      refine FF.x_nil ?_
      refine FF.nxt_nx ?_
      try dsimp only [List.set_cons_zero, List.set_cons_succ]
      refine FF.x_cons ?_
      refine FF.x_ite ?_
      refine FF.x_cmp ?_
      refine FF.x_var (by rfl) ?_
      refine FF.x_const ?_
      refine FF.OkO.of rfl ?_
      refine FF.OkO.of rfl ?_
      refine FF.Cd.ff ?_
      refine FF.x_nil ?_
      refine FF.nxt_nx ?_
      try dsimp only [List.set_cons_zero, List.set_cons_succ]
      refine FF.x_cons ?_
      refine FF.x_ite ?_
      refine FF.x_cmp ?_
      refine FF.x_var (by rfl) ?_
      refine FF.x_const ?_
      refine FF.OkO.of rfl ?_
      refine FF.OkO.of rfl ?_
      refine FF.Cd.ff ?_
      refine FF.x_nil ?_
      refine FF.nxt_nx ?_
      try dsimp only [List.set_cons_zero, List.set_cons_succ]
      refine FF.x_cons ?_
      refine FF.x_ite ?_
      refine FF.x_cmp ?_
      refine FF.x_var (by rfl) ?_
      refine FF.x_const ?_
      refine FF.OkO.of rfl ?_
      refine FF.OkO.of rfl ?_
      refine FF.Cd.ff ?_
      refine FF.x_nil ?_
      refine FF.nxt_nx ?_
      try dsimp only [List.set_cons_zero, List.set_cons_succ]
      refine FF.x_cons ?_
      refine FF.x_set ?_
      refine FF.x_ife ?_
      refine FF.x_var (by rfl) ?_
      refine FF.OkO.of rfl ?_
      refine FF.Cd.ff ?_
      refine FF.x_bi ?_
      refine FF.x_acons ?_
      refine FF.x_var (by rfl) ?_
      refine FF.x_anil ?_
      refine FF.OkO.of rfl ?_
      refine FF.OkO.of rfl ?_
      refine FF.nxt_nx ?_
      try dsimp only [List.set_cons_zero, List.set_cons_succ]
      refine FF.x_cons ?_
      refine FF.x_ret ?_
      refine FF.x_tup ?_
      refine FF.x_acons ?_
      refine FF.x_var (by rfl) ?_
      refine FF.x_acons ?_
      refine FF.x_bi ?_
      refine FF.x_acons ?_
      refine FF.x_var (by rfl) ?_
      refine FF.x_anil ?_
      refine FF.OkO.of rfl ?_
      refine FF.x_anil ?_
      refine FF.OkO.of rfl ?_
      refine FF.nxt_rt ?_
      try dsimp only [List.set_cons_zero, List.set_cons_succ]
      refine FF.end_rt ?_
      try dsimp only [List.set_cons_zero, List.set_cons_succ]
      exact thaw1_pure (pr _)
def BareOk (f : List D → Hq → R (D × Hq)) : Prop := ∀ (w : Nat) (h : Hq), 5 ≤ w → w < 12 → Wp (f [.int w] h) fun p => p = (.exn (nm12.getD w "") [], h)
theorem bare_ok {φ : Fn} : BareOk (runDef φ d_q_law_bare) := by
  intro w h h0 h1
  have k : w = 5 ∨ w = 6 ∨ w = 7 ∨ w = 8 ∨ w = 9 ∨ w = 10 ∨ w = 11 := by omega
  rcases k with rfl | rfl | rfl | rfl | rfl | rfl | rfl
  · refine pure_def rfl rfl rfl rfl ?_
    refine FF.x_cons ?_
    refine FF.x_ite ?_
    refine FF.x_cmp ?_
    refine FF.x_var (by rfl) ?_
    refine FF.x_const ?_
    refine FF.OkO.of rfl ?_
    refine FF.OkO.of rfl ?_
    refine FF.Cd.tt ?_
    refine FF.x_cons ?_
    refine FF.x_ret ?_
    refine FF.x_bi ?_
    refine FF.x_anil ?_
    refine FF.OkO.of rfl ?_
    refine FF.nxt_rt ?_
    try dsimp only [List.set_cons_zero, List.set_cons_succ]
    refine FF.nxt_rt ?_
    try dsimp only [List.set_cons_zero, List.set_cons_succ]
    refine FF.end_rt ?_
    try dsimp only [List.set_cons_zero, List.set_cons_succ]
    exact thaw1_pure rfl
  · refine pure_def rfl rfl rfl rfl ?_
    refine FF.x_cons ?_
    refine FF.x_ite ?_
    refine FF.x_cmp ?_
    refine FF.x_var (by rfl) ?_
    refine FF.x_const ?_
    refine FF.OkO.of rfl ?_
    refine FF.OkO.of rfl ?_
    refine FF.Cd.ff ?_
    refine FF.x_nil ?_
    refine FF.nxt_nx ?_
    try dsimp only [List.set_cons_zero, List.set_cons_succ]
    refine FF.x_cons ?_
    refine FF.x_ite ?_
    refine FF.x_cmp ?_
    refine FF.x_var (by rfl) ?_
    refine FF.x_const ?_
    refine FF.OkO.of rfl ?_
    refine FF.OkO.of rfl ?_
    refine FF.Cd.tt ?_
    refine FF.x_cons ?_
    refine FF.x_ret ?_
    refine FF.x_bi ?_
    refine FF.x_anil ?_
    refine FF.OkO.of rfl ?_
    refine FF.nxt_rt ?_
    try dsimp only [List.set_cons_zero, List.set_cons_succ]
    refine FF.nxt_rt ?_
    try dsimp only [List.set_cons_zero, List.set_cons_succ]
    refine FF.end_rt ?_
    try dsimp only [List.set_cons_zero, List.set_cons_succ]
    exact thaw1_pure rfl
  · refine pure_def rfl rfl rfl rfl ?_
    refine FF.x_cons ?_
    refine FF.x_ite ?_
    refine FF.x_cmp ?_
    refine FF.x_var (by rfl) ?_
    refine FF.x_const ?_
    refine FF.OkO.of rfl ?_
    refine FF.OkO.of rfl ?_
    refine FF.Cd.ff ?_
    refine FF.x_nil ?_
    refine FF.nxt_nx ?_
    try dsimp only [List.set_cons_zero, List.set_cons_succ]
    refine FF.x_cons ?_
    refine FF.x_ite ?_
    refine FF.x_cmp ?_
    refine FF.x_var (by rfl) ?_
    refine FF.x_const ?_
    refine FF.OkO.of rfl ?_
    refine FF.OkO.of rfl ?_
    refine FF.Cd.ff ?_
    refine FF.x_nil ?_
    refine FF.nxt_nx ?_
    try dsimp only [List.set_cons_zero, List.set_cons_succ]
    refine FF.x_cons ?_
    refine FF.x_ite ?_
    refine FF.x_cmp ?_
    refine FF.x_var (by rfl) ?_
    refine FF.x_const ?_
    refine FF.OkO.of rfl ?_
    refine FF.OkO.of rfl ?_
    refine FF.Cd.tt ?_
    refine FF.x_cons ?_
    refine FF.x_ret ?_
    refine FF.x_bi ?_
    refine FF.x_anil ?_
    refine FF.OkO.of rfl ?_
    refine FF.nxt_rt ?_
    try dsimp only [List.set_cons_zero, List.set_cons_succ]
    refine FF.nxt_rt ?_
    try dsimp only [List.set_cons_zero, List.set_cons_succ]
    refine FF.end_rt ?_
    try dsimp only [List.set_cons_zero, List.set_cons_succ]
    exact thaw1_pure rfl
  · refine pure_def rfl rfl rfl rfl ?_
    refine FF.x_cons ?_
    refine FF.x_ite ?_
    refine FF.x_cmp ?_
    refine FF.x_var (by rfl) ?_
    refine FF.x_const ?_
    refine FF.OkO.of rfl ?_
    refine FF.OkO.of rfl ?_
    refine FF.Cd.ff ?_
    refine FF.x_nil ?_
    refine FF.nxt_nx ?_
    try dsimp only [List.set_cons_zero, List.set_cons_succ]
    refine FF.x_cons ?_
    refine FF.x_ite ?_
    refine FF.x_cmp ?_
    refine FF.x_var (by rfl) ?_
    refine FF.x_const ?_
    refine FF.OkO.of rfl ?_
    refine FF.OkO.of rfl ?_
    refine FF.Cd.ff ?_
    refine FF.x_nil ?_
    refine FF.nxt_nx ?_
    try dsimp only [List.set_cons_zero, List.set_cons_succ]
    refine FF.x_cons ?_
    refine FF.x_ite ?_
    refine FF.x_cmp ?_
    refine FF.x_var (by rfl) ?_
    refine FF.x_const ?_
    refine FF.OkO.of rfl ?_
    refine FF.OkO.of rfl ?_
    refine FF.Cd.ff ?_
    refine FF.x_nil ?_
    refine FF.nxt_nx ?_
    try dsimp only [List.set_cons_zero, List.set_cons_succ]
    refine FF.x_cons ?_
    refine FF.x_ite ?_
    refine FF.x_cmp ?_
    refine FF.x_var (by rfl) ?_
    refine FF.x_const ?_
    refine FF.OkO.of rfl ?_
    refine FF.OkO.of rfl ?_
    refine FF.Cd.tt ?_
    refine FF.x_cons ?_
    refine FF.x_ret ?_
    refine FF.x_bi ?_
    refine FF.x_anil ?_
    refine FF.OkO.of rfl ?_
    refine FF.nxt_rt ?_
    try dsimp only [List.set_cons_zero, List.set_cons_succ]
    refine FF.nxt_rt ?_
    try dsimp only [List.set_cons_zero, List.set_cons_succ]
    refine FF.end_rt ?_
    try dsimp only [List.set_cons_zero, List.set_cons_succ]
    exact thaw1_pure rfl
  · refine pure_def rfl rfl rfl rfl ?_
    refine FF.x_cons ?_
    refine FF.x_ite ?_
    refine FF.x_cmp ?_
    refine FF.x_var (by rfl) ?_
    refine FF.x_const ?_
    refine FF.OkO.of rfl ?_
    refine FF.OkO.of rfl ?_
    refine FF.Cd.ff ?_
    refine FF.x_nil ?_
    refine FF.nxt_nx ?_
    try dsimp only [List.set_cons_zero, List.set_cons_succ]
    refine FF.x_cons ?_
    refine FF.x_ite ?_
    refine FF.x_cmp ?_
    refine FF.x_var (by rfl) ?_
    refine FF.x_const ?_
    refine FF.OkO.of rfl ?_
    refine FF.OkO.of rfl ?_
    refine FF.Cd.ff ?_
    refine FF.x_nil ?_
    refine FF.nxt_nx ?_
    try dsimp only [List.set_cons_zero, List.set_cons_succ]
    refine FF.x_cons ?_
    refine FF.x_ite ?_
    refine FF.x_cmp ?_
    refine FF.x_var (by rfl) ?_
    refine FF.x_const ?_
    refine FF.OkO.of rfl ?_
    refine FF.OkO.of rfl ?_
    refine FF.Cd.ff ?_
    refine FF.x_nil ?_
    refine FF.nxt_nx ?_
    try dsimp only [List.set_cons_zero, List.set_cons_succ]
    refine FF.x_cons ?_
    refine FF.x_ite ?_
    refine FF.x_cmp ?_
    refine FF.x_var (by rfl) ?_
    refine FF.x_const ?_
    refine FF.OkO.of rfl ?_
    refine FF.OkO.of rfl ?_
    refine FF.Cd.ff ?_
    refine FF.x_nil ?_
    refine FF.nxt_nx ?_
    try dsimp only [List.set_cons_zero, List.set_cons_succ]
    refine FF.x_cons ?_
    refine FF.x_ite ?_
    refine FF.x_cmp ?_
    refine FF.x_var (by rfl) ?_
    refine FF.x_const ?_
    refine FF.OkO.of rfl ?_
    refine FF.OkO.of rfl ?_
    refine FF.Cd.tt ?_
    refine FF.x_cons ?_
    refine FF.x_ret ?_
    refine FF.x_bi ?_
    refine FF.x_anil ?_
    refine FF.OkO.of rfl ?_
    refine FF.nxt_rt ?_
    try dsimp only [List.set_cons_zero, List.set_cons_succ]
    refine FF.nxt_rt ?_
    try dsimp only [List.set_cons_zero, List.set_cons_succ]
    refine FF.end_rt ?_
    try dsimp only [List.set_cons_zero, List.set_cons_succ]
    exact thaw1_pure rfl
  · refine pure_def rfl rfl rfl rfl ?_
    refine FF.x_cons ?_
    refine FF.x_ite ?_
    refine FF.x_cmp ?_
    refine FF.x_var (by rfl) ?_
    refine FF.x_const ?_
    refine FF.OkO.of rfl ?_
    refine FF.OkO.of rfl ?_
    refine FF.Cd.ff ?_
    refine FF.x_nil ?_
    refine FF.nxt_nx ?_
    try dsimp only [List.set_cons_zero, List.set_cons_succ]
    refine FF.x_cons ?_
    refine FF.x_ite ?_
    refine FF.x_cmp ?_
    refine FF.x_var (by rfl) ?_
    refine FF.x_const ?_
    refine FF.OkO.of rfl ?_
    refine FF.OkO.of rfl ?_
    refine FF.Cd.ff ?_
    refine FF.x_nil ?_
    refine FF.nxt_nx ?_
    try dsimp only [List.set_cons_zero, List.set_cons_succ]
    refine FF.x_cons ?_
    refine FF.x_ite ?_
    refine FF.x_cmp ?_
    refine FF.x_var (by rfl) ?_
    refine FF.x_const ?_
    refine FF.OkO.of rfl ?_
    refine FF.OkO.of rfl ?_
    refine FF.Cd.ff ?_
    refine FF.x_nil ?_
    refine FF.nxt_nx ?_
    try dsimp only [List.set_cons_zero, List.set_cons_succ]
    refine FF.x_cons ?_
    refine FF.x_ite ?_
    refine FF.x_cmp ?_
    refine FF.x_var (by rfl) ?_
    refine FF.x_const ?_
    refine FF.OkO.of rfl ?_
    refine FF.OkO.of rfl ?_
    refine FF.Cd.ff ?_
    refine FF.x_nil ?_
    refine FF.nxt_nx ?_
    try dsimp only [List.set_cons_zero, List.set_cons_succ]
    refine FF.x_cons ?_
    refine FF.x_ite ?_
    refine FF.x_cmp ?_
    refine FF.x_var (by rfl) ?_
    refine FF.x_const ?_
    refine FF.OkO.of rfl ?_
    refine FF.OkO.of rfl ?_
    refine FF.Cd.ff ?_
    refine FF.x_nil ?_
    refine FF.nxt_nx ?_
    try dsimp only [List.set_cons_zero, List.set_cons_succ]
    refine FF.x_cons ?_
    refine FF.x_ret ?_
    refine FF.x_ife ?_
    refine FF.x_cmp ?_
    refine FF.x_var (by rfl) ?_
    refine FF.x_const ?_
    refine FF.OkO.of rfl ?_
    refine FF.OkO.of rfl ?_
    refine FF.Cd.tt ?_
    refine FF.x_bi ?_
    refine FF.x_anil ?_
    refine FF.OkO.of rfl ?_
    refine FF.nxt_rt ?_
    try dsimp only [List.set_cons_zero, List.set_cons_succ]
    refine FF.end_rt ?_
    try dsimp only [List.set_cons_zero, List.set_cons_succ]
    exact thaw1_pure rfl
  · refine pure_def rfl rfl rfl rfl ?_
    refine FF.x_cons ?_
    refine FF.x_ite ?_
    refine FF.x_cmp ?_
    refine FF.x_var (by rfl) ?_
    refine FF.x_const ?_
    refine FF.OkO.of rfl ?_
    refine FF.OkO.of rfl ?_
    refine FF.Cd.ff ?_
    refine FF.x_nil ?_
    refine FF.nxt_nx ?_
    try dsimp only [List.set_cons_zero, List.set_cons_succ]
    refine FF.x_cons ?_
    refine FF.x_ite ?_
    refine FF.x_cmp ?_
    refine FF.x_var (by rfl) ?_
    refine FF.x_const ?_
    refine FF.OkO.of rfl ?_
    refine FF.OkO.of rfl ?_
    refine FF.Cd.ff ?_
    refine FF.x_nil ?_
    refine FF.nxt_nx ?_
    try dsimp only [List.set_cons_zero, List.set_cons_succ]
    refine FF.x_cons ?_
    refine FF.x_ite ?_
    refine FF.x_cmp ?_
    refine FF.x_var (by rfl) ?_
    refine FF.x_const ?_
    refine FF.OkO.of rfl ?_
    refine FF.OkO.of rfl ?_
    refine FF.Cd.ff ?_
    refine FF.x_nil ?_
    refine FF.nxt_nx ?_
    try dsimp only [List.set_cons_zero, List.set_cons_succ]
    refine FF.x_cons ?_
    refine FF.x_ite ?_
    refine FF.x_cmp ?_
    refine FF.x_var (by rfl) ?_
    refine FF.x_const ?_
    refine FF.OkO.of rfl ?_
    refine FF.OkO.of rfl ?_
    refine FF.Cd.ff ?_
    refine FF.x_nil ?_
    refine FF.nxt_nx ?_
    try dsimp only [List.set_cons_zero, List.set_cons_succ]
    refine FF.x_cons ?_
    refine FF.x_ite ?_
    refine FF.x_cmp ?_
    refine FF.x_var (by rfl) ?_
    refine FF.x_const ?_
    refine FF.OkO.of rfl ?_
    refine FF.OkO.of rfl ?_
    refine FF.Cd.ff ?_
    refine FF.x_nil ?_
    refine FF.nxt_nx ?_
    try dsimp only [List.set_cons_zero, List.set_cons_succ]
    refine FF.x_cons ?_
    refine FF.x_ret ?_
    refine FF.x_ife ?_
    refine FF.x_cmp ?_
    refine FF.x_var (by rfl) ?_
    refine FF.x_const ?_
    refine FF.OkO.of rfl ?_
    refine FF.OkO.of rfl ?_
    refine FF.Cd.ff ?_
    refine FF.x_bi ?_
    refine FF.x_anil ?_
    refine FF.OkO.of rfl ?_
    refine FF.nxt_rt ?_
    try dsimp only [List.set_cons_zero, List.set_cons_succ]
    refine FF.end_rt ?_
    try dsimp only [List.set_cons_zero, List.set_cons_succ]
    exact thaw1_pure rfl
theorem own_mark : ∀ j : Nat, j < 12 → (nm12.map fun f => D.bl (subX (nm12.getD j "") f)) = (List.range 12).map fun k => D.bl (k == j) := by
  intro j hj
  have k : j = 0 ∨ j = 1 ∨ j = 2 ∨ j = 3 ∨ j = 4 ∨ j = 5 ∨ j = 6 ∨ j = 7 ∨ j = 8 ∨ j = 9 ∨ j = 10 ∨ j = 11 := by omega
  rcases k with rfl | rfl | rfl | rfl | rfl | rfl | rfl | rfl | rfl | rfl | rfl | rfl <;> rfl
theorem nm_in : ∀ j : Nat, j < 12 → errNames.contains (nm12.getD j "") = true := by
  intro j hj
  have k : j = 0 ∨ j = 1 ∨ j = 2 ∨ j = 3 ∨ j = 4 ∨ j = 5 ∨ j = 6 ∨ j = 7 ∨ j = 8 ∨ j = 9 ∨ j = 10 ∨ j = 11 := by omega
  rcases k with rfl | rfl | rfl | rfl | rfl | rfl | rfl | rfl | rfl | rfl | rfl | rfl <;> rfl
def IsKOk (f : List D → Hq → R (D × Hq)) : Prop := ∀ (w : Nat) (ds : List D) (h : Hq), w < 12 → D.pures ds = true → Wp (f [.int w, .exn (nm12.getD w "") ds] h) fun p => p = (.bl true, h)
theorem isk_ok {φ : Fn} : IsKOk (runDef φ d_q_law_is_kind) := by
  intro w ds h hw pd
  have hc := nm_in w hw
  have om := own_mark w hw
  generalize nm12.getD w "" = c at hc om
  have fe : subX c "FieldsError" = true := by simp [subX]
  have ve : subX c "ValueError" = true := by simp [subX]
  refine pure_def rfl rfl (by simp [D.pures, D.pure, pd]) rfl ?_
  refine FF.x_cons ?_
  refine FF.x_set ?_
  refine FF.x_lst ?_
  refine FF.x_acons ?_
  refine FF.x_bi ?_
  refine FF.x_acons ?_
  refine FF.x_var (by rfl) ?_
  refine FF.x_anil ?_
  try dsimp only [List.set_cons_zero, List.set_cons_succ]
  refine o_isE hc ?_
  refine FF.x_acons ?_
  refine FF.x_bi ?_
  refine FF.x_acons ?_
  refine FF.x_var (by rfl) ?_
  refine FF.x_anil ?_
  try dsimp only [List.set_cons_zero, List.set_cons_succ]
  refine o_isE hc ?_
  refine FF.x_acons ?_
  refine FF.x_bi ?_
  refine FF.x_acons ?_
  refine FF.x_var (by rfl) ?_
  refine FF.x_anil ?_
  try dsimp only [List.set_cons_zero, List.set_cons_succ]
  refine o_isE hc ?_
  refine FF.x_acons ?_
  refine FF.x_bi ?_
  refine FF.x_acons ?_
  refine FF.x_var (by rfl) ?_
  refine FF.x_anil ?_
  try dsimp only [List.set_cons_zero, List.set_cons_succ]
  refine o_isE hc ?_
  refine FF.x_anil ?_
  refine FF.OkO.of rfl ?_
  refine FF.OkO.of rfl ?_
  refine FF.nxt_nx ?_
  try dsimp only [List.set_cons_zero, List.set_cons_succ]
  refine FF.x_cons ?_
  refine FF.x_set ?_
  refine FF.x_bin ?_
  refine FF.x_var (by rfl) ?_
  refine FF.x_lst ?_
  refine FF.x_acons ?_
  refine FF.x_bi ?_
  refine FF.x_acons ?_
  refine FF.x_var (by rfl) ?_
  refine FF.x_anil ?_
  try dsimp only [List.set_cons_zero, List.set_cons_succ]
  refine o_isE hc ?_
  refine FF.x_acons ?_
  refine FF.x_bi ?_
  refine FF.x_acons ?_
  refine FF.x_var (by rfl) ?_
  refine FF.x_anil ?_
  try dsimp only [List.set_cons_zero, List.set_cons_succ]
  refine o_isE hc ?_
  refine FF.x_acons ?_
  refine FF.x_bi ?_
  refine FF.x_acons ?_
  refine FF.x_var (by rfl) ?_
  refine FF.x_anil ?_
  try dsimp only [List.set_cons_zero, List.set_cons_succ]
  refine o_isE hc ?_
  refine FF.x_anil ?_
  refine FF.OkO.of rfl ?_
  refine FF.OkO.of rfl ?_
  refine FF.OkO.of rfl ?_
  refine FF.nxt_nx ?_
  try dsimp only [List.set_cons_zero, List.set_cons_succ]
  refine FF.x_cons ?_
  refine FF.x_set ?_
  refine FF.x_bin ?_
  refine FF.x_var (by rfl) ?_
  refine FF.x_lst ?_
  refine FF.x_acons ?_
  refine FF.x_bi ?_
  refine FF.x_acons ?_
  refine FF.x_var (by rfl) ?_
  refine FF.x_anil ?_
  try dsimp only [List.set_cons_zero, List.set_cons_succ]
  refine o_isE hc ?_
  refine FF.x_acons ?_
  refine FF.x_bi ?_
  refine FF.x_acons ?_
  refine FF.x_var (by rfl) ?_
  refine FF.x_anil ?_
  try dsimp only [List.set_cons_zero, List.set_cons_succ]
  refine o_isE hc ?_
  refine FF.x_acons ?_
  refine FF.x_bi ?_
  refine FF.x_acons ?_
  refine FF.x_var (by rfl) ?_
  refine FF.x_anil ?_
  try dsimp only [List.set_cons_zero, List.set_cons_succ]
  refine o_isE hc ?_
  refine FF.x_anil ?_
  refine FF.OkO.of rfl ?_
  refine FF.OkO.of rfl ?_
  refine FF.OkO.of rfl ?_
  refine FF.nxt_nx ?_
  try dsimp only [List.set_cons_zero, List.set_cons_succ]
  refine FF.x_cons ?_
  refine FF.x_set ?_
  refine FF.x_bin ?_
  refine FF.x_var (by rfl) ?_
  refine FF.x_lst ?_
  refine FF.x_acons ?_
  refine FF.x_bi ?_
  refine FF.x_acons ?_
  refine FF.x_var (by rfl) ?_
  refine FF.x_anil ?_
  try dsimp only [List.set_cons_zero, List.set_cons_succ]
  refine o_isE hc ?_
  refine FF.x_acons ?_
  refine FF.x_bi ?_
  refine FF.x_acons ?_
  refine FF.x_var (by rfl) ?_
  refine FF.x_anil ?_
  try dsimp only [List.set_cons_zero, List.set_cons_succ]
  refine o_isE hc ?_
  refine FF.x_anil ?_
  refine FF.OkO.of rfl ?_
  refine FF.OkO.of rfl ?_
  refine FF.OkO.of rfl ?_
  refine FF.nxt_nx ?_
  try dsimp only [List.set_cons_zero, List.set_cons_succ]
  refine FF.x_cons ?_
  refine FF.x_ret ?_
  refine FF.x_and ?_
  refine FF.x_cmp ?_
  refine FF.x_var (by rfl) ?_
  refine FF.x_comp ?_
  refine FF.x_range1 ?_
  refine FF.x_const ?_
  refine FF.o_rng1 (by decide) (by decide) ?_
  try dsimp only [List.set_cons_zero, List.set_cons_succ]
  refine wp_fmap (fun k : Nat => D.int (0 + (k : Int))) (fun k : Nat => some (D.bl (k == w))) (List.range 12) rfl (by decide) (fun k hk => ?_) ?_
  · refine FF.x_stepC ?_
    refine FF.OkO.of rfl ?_
    refine FF.x_if0 ?_
    refine FF.Cd.tt ?_
    refine FF.x_cmp ?_
    refine FF.x_var (by rfl) ?_
    refine FF.x_var (by rfl) ?_
    refine FF.OkO.of rfl ?_
    try dsimp only [List.set_cons_zero, List.set_cons_succ]
    have e5 : ((0 + (k : Int)) == (w : Int)) = (k == w) := by
      rw [Bool.eq_iff_iff]
      simp
      omega
    rw [e5]
  rw [show List.filterMap (fun k => some (D.bl (k == w))) (List.range 12) = (List.range 12).map fun k => D.bl (k == w) by rw [← List.filterMap_eq_map]; rfl]
  refine o_lst (by simp) ?_
  dsimp only
  have e6 : [D.bl (subX c "BadBook"), D.bl (subX c "TooMany"), D.bl (subX c "Unlevel"), D.bl (subX c "NoVersion")] ++ [D.bl (subX c "BadLog"), D.bl (subX c "Unfit"), D.bl (subX c "BadText")] ++ [D.bl (subX c "Level"), D.bl (subX c "Few"), D.bl (subX c "TooManyEdits")] ++ [D.bl (subX c "NothingToUndo"), D.bl (subX c "NothingToRedo")] = (List.range 12).map fun k => D.bl (k == w) := om
  rw [e6]
  refine o_eq (eq_self (d := .lst ((List.range 12).map fun k => D.bl (k == w))) (by unfold D.plainT; exact plains_map fun _ _ => rfl) (by
    have := deepns_map (f := fun k : Nat => D.bl (k == w)) (c := 0) (xs := List.range 12) fun p _ => by simp [D.deepn]
    simp only [D.deepn]
    omega) rfl) ?_
  refine FF.OkO.of rfl ?_
  refine FF.Cd.tt ?_
  refine FF.x_and ?_
  refine FF.x_bi ?_
  refine FF.x_acons ?_
  refine FF.x_var (by rfl) ?_
  refine FF.x_anil ?_
  try dsimp only [List.set_cons_zero, List.set_cons_succ]
  refine o_isE hc ?_
  rw [fe]
  refine FF.OkO.of rfl ?_
  refine FF.Cd.tt ?_
  refine FF.x_bi ?_
  refine FF.x_acons ?_
  refine FF.x_var (by rfl) ?_
  refine FF.x_anil ?_
  try dsimp only [List.set_cons_zero, List.set_cons_succ]
  refine o_isE hc ?_
  rw [ve]
  refine FF.nxt_rt ?_
  try dsimp only [List.set_cons_zero, List.set_cons_succ]
  refine FF.end_rt ?_
  try dsimp only [List.set_cons_zero, List.set_cons_succ]
  exact thaw1_pure rfl
/-! ### things of any kind -/
def bN : Nat → Nat
  | 0 => 90
  | d + 1 => 3 * bN d + 6
def bK : Nat → Nat
  | 0 => 3
  | d + 1 => bK d + 2
theorem bN_ge (d : Nat) : 90 ≤ bN d := by
  induction d with
  | zero => exact Nat.le_refl _
  | succ d ih => show 90 ≤ 3 * bN d + 6; omega
theorem bK_ge (d : Nat) : 3 ≤ bK d := by
  induction d with
  | zero => exact Nat.le_refl _
  | succ d ih => show 3 ≤ bK d + 2; omega
theorem vf_dctB {n k : Nat} {s : Str} {d : D} (h : VF n k d) (hs : (s.cps.toList.all fun c => decide (c < 1114112)) = true) (l : s.cps.size ≤ 1) : VF (n + 3) (k + 1) (.dct [.str s, d]) := by
  have a := strC (n := 1) hs l
  refine ⟨?_, ?_, ?_⟩
  · unfold D.GoodR
    refine ⟨rfl, ?_⟩
    rw [D.GoodsR, D.GoodsR, D.GoodsR]
    exact ⟨a.good, h.good, trivial⟩
  · have := a.bulk; have := h.bulk
    rw [D.bulkR, D.bulksR, D.bulksR, D.bulksR]
    omega
  · have := a.deep; have := h.deep
    rw [D.deepR, D.deepsR, D.deepsR, D.deepsR]
    omega
def AnyOk (F : Fam) (d : Nat) (f : List D → Hq → R (D × Hq)) : Prop := FDraws F f [.ref F.root, .int d] (VF (bN d) (bK d))
theorem any_ok {g : Nat} {φ : Fn} (hd : FDrawOk (dkF g) (φ 68)) (hp : FPickOk (dkF g) (φ 69)) (d : Nat) (ih : ∀ e, d = e + 1 → AnyOk (dkF g) e (φ 529)) : AnyOk (dkF g) d (runDef φ d_q_law_any) := by
  refine fdraws_trim rfl rfl fun s rest ok u => ?_
  have n0 := bN_ge d
  have k0 := bK_ge d
  refine FF.x_cons ?_
  refine FF.x_set ?_
  refine FF.x_call ?_
  refine FF.x_acons ?_
  refine FF.x_var (by rfl) ?_
  refine FF.x_acons ?_
  refine FF.x_ife ?_
  refine FF.x_cmp ?_
  refine FF.x_var (by rfl) ?_
  refine FF.x_const ?_
  refine FF.OkO.of rfl ?_
  refine FF.OkO.of rfl ?_
  try dsimp only [List.set_cons_zero, List.set_cons_succ]
  have e60 : (10 : Int) ^ Int.toNat 60 = 10 ^ 60 := rfl
  have e30 : (10 : Int) ^ Int.toNat 30 = T30 := rfl
  have sC := fun {s : Str} {n : Nat} (h : (s.cps.toList.all fun c => decide (c < 1114112)) = true) (l : s.cps.size ≤ n) => (strC (n := n) h l)
  have I : ∀ z : Int, -(10 ^ 450) < z → z < 10 ^ 450 → VF 0 0 (.int z) := fun z => vf_int
  have K : ∀ (z : Int) (s : DkS), 0 ≤ z → (z < 9 ∨ (0 < d ∧ z < 13)) → (dkF g).ok s → Wp (exB φ (d_q_law_any.body.drop 1) [some (.ref 1), some (.int d), some (.int z), none, none, none] ((dkF g).h s rest)) fun f => Wp (endOf f) fun p => ∃ (s' : (dkF g).S) (own : Hq), p.2 = (dkF g).h s' (rest ++ own) ∧ (dkF g).ok s' ∧ p.1.pure = true ∧ VF (bN d) (bK d) p.1 := by
    intro z s z0 z1 ok
    refine FF.x_cons ?_
    refine FF.x_ite ?_
    refine FF.x_cmp ?_
    refine FF.x_var (by rfl) ?_
    refine FF.x_const ?_
    refine FF.OkO.of rfl ?_
    refine FF.OkO.of rfl ?_
    try dsimp only [List.set_cons_zero, List.set_cons_succ]
    refine ⟨fun c => ?_, fun c => ?_⟩
    · refine FF.x_cons ?_
      refine FF.x_set ?_
      refine FF.x_lst ?_
      refine FF.x_acons ?_
      refine FF.x_const ?_
      refine FF.x_acons ?_
      refine FF.x_const ?_
      refine FF.x_acons ?_
      refine FF.x_const ?_
      refine FF.x_acons ?_
      refine FF.x_const ?_
      refine FF.x_acons ?_
      refine FF.x_const ?_
      refine FF.x_acons ?_
      refine FF.x_neg ?_
      refine FF.x_const ?_
      refine FF.OkO.of rfl ?_
      refine FF.x_acons ?_
      refine FF.x_bin ?_
      refine FF.x_const ?_
      refine FF.x_const ?_
      refine FF.OkO.of rfl ?_
      refine FF.x_acons ?_
      refine FF.x_bin ?_
      refine FF.x_neg ?_
      refine FF.x_bin ?_
      refine FF.x_const ?_
      refine FF.x_const ?_
      refine FF.OkO.of rfl ?_
      refine FF.OkO.of rfl ?_
      refine FF.x_bin ?_
      refine FF.x_const ?_
      refine FF.x_const ?_
      refine FF.OkO.of rfl ?_
      refine FF.OkO.of rfl ?_
      refine FF.x_acons ?_
      refine FF.x_const ?_
      refine FF.x_acons ?_
      refine FF.x_const ?_
      refine FF.x_acons ?_
      refine FF.x_bin ?_
      refine FF.x_const ?_
      refine FF.x_const ?_
      refine FF.OkO.of rfl ?_
      refine FF.x_acons ?_
      refine FF.x_tup ?_
      refine FF.x_anil ?_
      refine FF.OkO.of rfl ?_
      refine FF.x_acons ?_
      refine FF.x_lst ?_
      refine FF.x_anil ?_
      refine FF.OkO.of rfl ?_
      refine FF.x_acons ?_
      refine FF.x_const ?_
      refine FF.x_acons ?_
      refine FF.x_tup ?_
      refine FF.x_acons ?_
      refine FF.x_const ?_
      refine FF.x_acons ?_
      refine FF.x_const ?_
      refine FF.x_anil ?_
      refine FF.OkO.of rfl ?_
      refine FF.x_anil ?_
      refine FF.OkO.of rfl ?_
      refine FF.OkO.of rfl ?_
      refine FF.nxt_nx ?_
      try dsimp only [List.set_cons_zero, List.set_cons_succ]
      refine FF.x_cons ?_
      refine FF.x_ret ?_
      refine FF.x_call ?_
      refine FF.x_acons ?_
      refine FF.x_var (by rfl) ?_
      refine FF.x_acons ?_
      refine FF.x_bin ?_
      refine FF.x_var (by rfl) ?_
      refine FF.x_lst ?_
      refine FF.x_acons ?_
      refine FF.x_lst ?_
      refine FF.x_acons ?_
      refine FF.x_const ?_
      refine FF.x_acons ?_
      refine FF.x_lst ?_
      refine FF.x_acons ?_
      refine FF.x_const ?_
      refine FF.x_anil ?_
      refine FF.OkO.of rfl ?_
      refine FF.x_anil ?_
      refine FF.OkO.of rfl ?_
      refine FF.x_acons ?_
      refine FF.x_dct ?_
      refine FF.x_acons ?_
      refine FF.x_const ?_
      refine FF.x_acons ?_
      refine FF.x_const ?_
      refine FF.x_anil ?_
      refine FF.OkO.of rfl ?_
      refine FF.x_acons ?_
      refine FF.x_tup ?_
      refine FF.x_acons ?_
      refine FF.x_const ?_
      refine FF.x_acons ?_
      refine FF.x_const ?_
      refine FF.x_anil ?_
      refine FF.OkO.of rfl ?_
      refine FF.x_acons ?_
      refine FF.x_const ?_
      refine FF.x_acons ?_
      refine FF.x_tup ?_
      refine FF.x_acons ?_
      refine FF.x_const ?_
      refine FF.x_acons ?_
      refine FF.x_const ?_
      refine FF.x_anil ?_
      refine FF.OkO.of rfl ?_
      refine FF.x_acons ?_
      refine FF.x_tup ?_
      refine FF.x_acons ?_
      refine FF.x_const ?_
      refine FF.x_acons ?_
      refine FF.x_lst ?_
      refine FF.x_acons ?_
      refine FF.x_const ?_
      refine FF.x_anil ?_
      refine FF.OkO.of rfl ?_
      refine FF.x_anil ?_
      refine FF.OkO.of rfl ?_
      refine FF.x_acons ?_
      refine FF.x_const ?_
      refine FF.x_acons ?_
      refine FF.x_const ?_
      refine FF.x_acons ?_
      refine FF.x_bin ?_
      refine FF.x_const ?_
      refine FF.x_const ?_
      refine FF.OkO.of rfl ?_
      refine FF.x_anil ?_
      refine FF.OkO.of rfl ?_
      refine FF.OkO.of rfl ?_
      refine FF.x_anil ?_
      try dsimp only [List.set_cons_zero, List.set_cons_succ]
      have V : ∀ x ∈ [D.non, D.bl true, D.bl false, D.int 0, D.int 1, D.int (-1), D.int (10 ^ Int.toNat 60), D.int (-10 ^ Int.toNat 60 * 10 ^ Int.toNat 60), D.str (Str.ofString ""), D.str (Str.ofString "a"), D.str (strRep (Str.ofString "x\n") 40), D.tup [], D.lst [], D.dct [], D.tup [D.int 4, D.int 4]] ++ [D.lst [D.int 1, D.lst [D.int 2]], D.dct [D.str (Str.ofString "a"), D.int 1], D.tup [D.str (Str.ofString "kind"), D.int 3], D.str (Str.ofString "form"), D.tup [D.int 0, D.int 1], D.tup [D.str (Str.ofString "kind"), D.lst [D.int 0]], D.int 256, D.int 100, D.int (10 ^ Int.toNat 30)], VF (bN d) (bK d) x := fun x hx => by
        have IN : ∀ z : Int, -(10 ^ 450) < z → z < 10 ^ 450 → VF (bN d) (bK d) (.int z) := fun z h0 h1 => (I z h0 h1).mono (by omega) (by omega)
        have T2 : ∀ {a b : D} {n k : Nat}, VF n k a → VF n k b → n ≤ 10 → k ≤ 2 → VF (bN d) (bK d) (.tup [a, b]) ∧ VF (bN d) (bK d) (.lst [a, b]) := fun {a b n k} ha hb h1 h2 =>
          have h : ∀ x ∈ [a, b], VF n k x := fun x hx => by
            simp only [List.mem_cons, List.not_mem_nil, or_false] at hx
            rcases hx with rfl | rfl <;> assumption
          ⟨(vf_tup (l := 2) h (by simp)).mono (by omega) (by omega), (vf_lst (l := 2) h (by simp)).mono (by omega) (by omega)⟩
        have L1 : ∀ z : Int, -(10 ^ 450) < z → z < 10 ^ 450 → VF 1 1 (.lst [.int z]) := fun z h0 h1 => vf_lst (n := 0) (k := 0) (l := 1) (fun x hx => by
          rw [List.mem_singleton] at hx
          rw [hx]; exact I z h0 h1) (by simp)
        simp only [List.cons_append, List.nil_append, List.mem_cons, List.not_mem_nil, or_false] at hx
        rcases hx with rfl | rfl | rfl | rfl | rfl | rfl | rfl | rfl | rfl | rfl | rfl | rfl | rfl | rfl | rfl | rfl | rfl | rfl | rfl | rfl | rfl | rfl | rfl | rfl
        · exact vf_non.mono (by omega) (by omega)
        · exact vf_bl.mono (by omega) (by omega)
        · exact vf_bl.mono (by omega) (by omega)
        · exact IN _ (by decide) (by decide)
        · exact IN _ (by decide) (by decide)
        · exact IN _ (by decide) (by decide)
        · exact IN _ (by decide +kernel) (by decide +kernel)
        · exact IN _ (by decide +kernel) (by decide +kernel)
        · exact (sC (n := 1) (by decide +kernel) (by decide +kernel)).mono (by omega) (by omega)
        · exact (sC (n := 1) (by decide +kernel) (by decide +kernel)).mono (by omega) (by omega)
        · exact (sC (n := 80) (by decide +kernel) (by decide +kernel)).mono (by omega) (by omega)
        · exact (vf_tup (n := 0) (k := 0) (l := 0) (fun d hd => by cases hd) (Nat.le_refl _)).mono (by omega) (by omega)
        · exact (vf_lst (n := 0) (k := 0) (l := 0) (fun d hd => by cases hd) (Nat.le_refl _)).mono (by omega) (by omega)
        · exact vf_dct0.mono (by omega) (by omega)
        · exact (T2 (I 4 (by decide) (by decide)) (I 4 (by decide) (by decide)) (by omega) (by omega)).1
        · exact (T2 ((I 1 (by decide) (by decide)).mono (by omega) (by omega)) (L1 2 (by decide) (by decide)) (by omega) (by omega)).2
        · exact (vf_dctB (I 1 (by decide) (by decide)) (by decide +kernel) (by decide +kernel)).mono (by omega) (by omega)
        · exact (T2 (sC (n := 4) (by decide +kernel) (by decide +kernel)) ((I 3 (by decide) (by decide)).mono (by omega) (by omega)) (by omega) (by omega)).1
        · exact (sC (n := 4) (by decide +kernel) (by decide +kernel)).mono (by omega) (by omega)
        · exact (T2 (I 0 (by decide) (by decide)) (I 1 (by decide) (by decide)) (by omega) (by omega)).1
        · exact (T2 ((sC (n := 4) (by decide +kernel) (by decide +kernel)).mono (by omega) (by omega)) ((L1 0 (by decide) (by decide)).mono (show 1 ≤ 4 by omega) (Nat.le_refl 1)) (by omega) (by omega)).1
        · exact IN _ (by decide) (by decide)
        · exact IN _ (by decide) (by decide)
        · exact IN _ (by decide +kernel) (by decide +kernel)
      have Vl : ([D.non, D.bl true, D.bl false, D.int 0, D.int 1, D.int (-1), D.int (10 ^ Int.toNat 60), D.int (-10 ^ Int.toNat 60 * 10 ^ Int.toNat 60), D.str (Str.ofString ""), D.str (Str.ofString "a"), D.str (strRep (Str.ofString "x\n") 40), D.tup [], D.lst [], D.dct [], D.tup [D.int 4, D.int 4]] ++ [D.lst [D.int 1, D.lst [D.int 2]], D.dct [D.str (Str.ofString "a"), D.int 1], D.tup [D.str (Str.ofString "kind"), D.int 3], D.str (Str.ofString "form"), D.tup [D.int 0, D.int 1], D.tup [D.str (Str.ofString "kind"), D.lst [D.int 0]], D.int 256, D.int 100, D.int (10 ^ Int.toNat 30)]).length = 24 := rfl
      generalize [D.non, D.bl true, D.bl false, D.int 0, D.int 1, D.int (-1), D.int (10 ^ Int.toNat 60), D.int (-10 ^ Int.toNat 60 * 10 ^ Int.toNat 60), D.str (Str.ofString ""), D.str (Str.ofString "a"), D.str (strRep (Str.ofString "x\n") 40), D.tup [], D.lst [], D.dct [], D.tup [D.int 4, D.int 4]] ++ [D.lst [D.int 1, D.lst [D.int 2]], D.dct [D.str (Str.ofString "a"), D.int 1], D.tup [D.str (Str.ofString "kind"), D.int 3], D.str (Str.ofString "form"), D.tup [D.int 0, D.int 1], D.tup [D.str (Str.ofString "kind"), D.lst [D.int 0]], D.int 256, D.int 100, D.int (10 ^ Int.toNat 30)] = A at V Vl
      have Vn : A ≠ [] := fun e => by rw [e] at Vl; cases Vl
      have Vp : D.pures A = true := vvs_pure (vvs_of fun x hx => (V x hx).vv)
      refine (hp A Vn (by omega) Vp s rest ok u).mono ?_
      rintro ⟨x, h'⟩ ⟨r', e, ok', hx⟩
      dsimp only at e hx
      subst e
      refine FF.nxt_rt ?_
      try dsimp only [List.set_cons_zero, List.set_cons_succ]
      refine FF.nxt_rt ?_
      try dsimp only [List.set_cons_zero, List.set_cons_succ]
      refine FF.end_rt ?_
      try dsimp only [List.set_cons_zero, List.set_cons_succ]
      exact ⟨r', [], by rw [List.append_nil], ok', (V x hx).pure, V x hx⟩
    · have c : ¬ z < 9 := by simpa using c
      have dz : 0 < d := by omega
      obtain ⟨e, rfl⟩ : ∃ e, d = e + 1 := ⟨d - 1, by omega⟩
      have ih := ih e rfl
      refine FF.x_nil ?_
      refine FF.nxt_nx ?_
      try dsimp only [List.set_cons_zero, List.set_cons_succ]
      refine FF.x_cons ?_
      refine FF.x_set ?_
      refine FF.x_comp ?_
      refine FF.x_range1 ?_
      refine FF.x_call ?_
      refine FF.x_acons ?_
      refine FF.x_var (by rfl) ?_
      refine FF.x_acons ?_
      refine FF.x_const ?_
      refine FF.x_anil ?_
      try dsimp only [List.set_cons_zero, List.set_cons_succ]
      refine (fdraw hd (many := 4) (by decide) (by decide +kernel) s rest ok u).mono ?_
      rintro ⟨_, _⟩ ⟨s2, e1, ok, m, e2, m0, m1⟩
      dsimp only at e1 e2
      subst e1; subst e2
      refine FF.o_rng1 (by omega) (by omega) ?_
      try dsimp only [List.set_cons_zero, List.set_cons_succ]
      refine wp_fdraws (F := dkF g) (G := VF (bN e) (bK e)) _ _ ok (by rw [rangeL_len]; omega) (fun x hx s ok => ?_) (fun L s3 gl l ok => ?_)
      · refine FF.x_stepC ?_
        refine FF.OkO.of rfl ?_
        refine FF.x_if0 ?_
        refine FF.Cd.tt ?_
        refine FF.x_call ?_
        refine FF.x_acons ?_
        refine FF.x_var (by rfl) ?_
        refine FF.x_acons ?_
        refine FF.x_bin ?_
        refine FF.x_var (by rfl) ?_
        refine FF.x_const ?_
        refine FF.OkO.of rfl ?_
        refine FF.x_anil ?_
        try dsimp only [List.set_cons_zero, List.set_cons_succ]
        rw [show (((e + 1 : Nat) : Int) - 1) = ((e : Nat) : Int) by omega]
        refine (ih s rest ok u).mono ?_
        rintro ⟨y, _⟩ ⟨s', e1, ok, hy⟩
        dsimp only at e1 hy
        subst e1
        exact ⟨fun z e => by cases e; exact hy, s', rfl, ok⟩
      rw [rangeL_len] at l
      have l3 : L.length ≤ 3 := by omega
      refine o_lst (by dsimp only; omega) ?_
      have VL := (vf_lst gl l3).mono (n' := bN (e + 1)) (k' := bK (e + 1)) (by show _ ≤ 3 * bN e + 6; omega) (by show _ ≤ bK e + 2; omega)
      have VT := (vf_tup gl l3).mono (n' := bN (e + 1)) (k' := bK (e + 1)) (by show _ ≤ 3 * bN e + 6; omega) (by show _ ≤ bK e + 2; omega)
      have VD := (vf_dctB (s := "b") (vf_lst gl l3) (by decide +kernel) (by decide +kernel)).mono (n' := bN (e + 1)) (k' := bK (e + 1)) (by show _ ≤ 3 * bN e + 6; omega) (by show _ ≤ bK e + 2; omega)
      refine FF.OkO.of rfl ?_
      refine FF.nxt_nx ?_
      try dsimp only [List.set_cons_zero, List.set_cons_succ]
      refine FF.x_cons ?_
      refine FF.x_ret ?_
      refine FF.x_ife ?_
      refine FF.x_cmp ?_
      refine FF.x_var (by rfl) ?_
      refine FF.x_const ?_
      refine FF.OkO.of rfl ?_
      refine FF.OkO.of rfl ?_
      try dsimp only [List.set_cons_zero, List.set_cons_succ]
      refine ⟨fun c => ?_, fun c => ?_⟩
      · refine FF.x_bi ?_
        refine FF.x_acons ?_
        refine FF.x_var (by rfl) ?_
        refine FF.x_anil ?_
        refine FF.OkO.of rfl ?_
        refine FF.nxt_rt ?_
        try dsimp only [List.set_cons_zero, List.set_cons_succ]
        refine FF.end_rt ?_
        try dsimp only [List.set_cons_zero, List.set_cons_succ]
        exact ⟨s3, [], by rw [List.append_nil], ok, VT.pure, VT⟩
      · refine FF.x_ife ?_
        refine FF.x_cmp ?_
        refine FF.x_var (by rfl) ?_
        refine FF.x_const ?_
        refine FF.OkO.of rfl ?_
        refine FF.OkO.of rfl ?_
        try dsimp only [List.set_cons_zero, List.set_cons_succ]
        refine ⟨fun c => ?_, fun c => ?_⟩
        · refine FF.x_var (by rfl) ?_
          refine FF.nxt_rt ?_
          try dsimp only [List.set_cons_zero, List.set_cons_succ]
          refine FF.end_rt ?_
          try dsimp only [List.set_cons_zero, List.set_cons_succ]
          exact ⟨s3, [], by rw [List.append_nil], ok, VL.pure, VL⟩
        · refine FF.x_dct ?_
          refine FF.x_acons ?_
          refine FF.x_const ?_
          refine FF.x_acons ?_
          refine FF.x_var (by rfl) ?_
          refine FF.x_anil ?_
          refine FF.OkO.of rfl ?_
          refine FF.nxt_rt ?_
          try dsimp only [List.set_cons_zero, List.set_cons_succ]
          refine FF.end_rt ?_
          try dsimp only [List.set_cons_zero, List.set_cons_succ]
          exact ⟨s3, [], by rw [List.append_nil], ok, VD.pure, VD⟩
  try dsimp only [List.set_cons_zero, List.set_cons_succ]
  refine ⟨fun c => ?_, fun c => ?_⟩
  · have c : 0 < d := by have := of_decide_eq_true c; omega
    refine FF.x_const ?_
    refine FF.x_anil ?_
    try dsimp only [List.set_cons_zero, List.set_cons_succ]
    refine (fdraw hd (many := 13) (by decide) (by decide +kernel) s rest ok u).mono ?_
    rintro ⟨_, _⟩ ⟨s2, e1, ok, z, e2, z0, z1⟩
    dsimp only at e1 e2
    subst e1; subst e2
    have KK := K z s2 z0 (.inr ⟨c, z1⟩) ok
    refine FF.OkO.of rfl ?_
    refine FF.Wp.mono (KK) ?_
    intro f w
    exact w
  · refine FF.x_const ?_
    refine FF.x_anil ?_
    try dsimp only [List.set_cons_zero, List.set_cons_succ]
    refine (fdraw hd (many := 9) (by decide) (by decide +kernel) s rest ok u).mono ?_
    rintro ⟨_, _⟩ ⟨s2, e1, ok, z, e2, z0, z1⟩
    dsimp only at e1 e2
    subst e1; subst e2
    have KK := K z s2 z0 (.inl z1) ok
    refine FF.OkO.of rfl ?_
    refine FF.Wp.mono (KK) ?_
    intro f w
    exact w
theorem law_ok {φ : Fn} (hdk : DkDeckOk (φ 526)) (hd : ∀ g, FDrawOk (dkF g) (φ 68)) (ha : ∀ g, AnyOk (dkF g) 2 (φ 529)) (h527 : MadeOk (φ 527)) (h528 : IsKOk (φ 528)) (h530 : BareOk (φ 530)) {ns : List Int} (hl : ns.length ≤ 63) :
    Wp (runDef φ d_law [.scr ns] []) fun p => p = (.bl true, []) := by
  refine pure_def rfl rfl rfl rfl ?_
  refine FF.x_cons ?_
  refine FF.x_set ?_
  refine FF.x_call ?_
  refine FF.x_acons ?_
  refine FF.x_var (by rfl) ?_
  refine FF.x_anil ?_
  try dsimp only [List.set_cons_zero, List.set_cons_succ]
  refine (hdk ns hl).mono ?_
  rintro ⟨_, _⟩ ⟨e1, g, s, e2, ok⟩
  dsimp only at e1 e2
  subst e1; subst e2
  have hd := hd g
  have ha := ha g
  refine FF.OkO.of rfl ?_
  refine FF.nxt_nx ?_
  try dsimp only [List.set_cons_zero, List.set_cons_succ]
  refine FF.x_cons ?_
  refine FF.x_for ?_
  refine FF.x_range1 ?_
  refine FF.x_const ?_
  refine FF.o_rng1 (by decide) (by decide) ?_
  try dsimp only [List.set_cons_zero, List.set_cons_succ]
  refine wp_loopF (fun k st h => ∃ (d2 d3 d4 d5 d6 d7 d8 d9 d10 : Option D) (s : DkS), st = [some (.scr ns), some (.ref 1), d2, d3, d4, d5, d6, d7, d8, d9, d10] ∧ h = (dkF g).h s [] ∧ (dkF g).ok s) _ 0 _ _ ⟨_, _, _, _, _, _, _, _, _, s, rfl, rfl, ok⟩ ?_ ?_
  · rintro i d st h e ⟨d2, d3, d4, d5, d6, d7, d8, d9, d10, s, rfl, rfl, ok⟩
    refine ⟨rfl, ?_⟩
    refine FF.x_stepL ?_
    refine FF.OkO.of rfl ?_
    refine FF.x_cons ?_
    refine FF.x_for ?_
    refine FF.x_range1 ?_
    refine FF.x_const ?_
    refine FF.o_rng1 (by decide) (by decide) ?_
    try dsimp only [List.set_cons_zero, List.set_cons_succ]
    refine wp_loopF (fun k st h => ∃ (d3 d4 d5 d6 d7 d8 d9 d10 : Option D) (s : DkS), st = [some (.scr ns), some (.ref 1), some d, d3, d4, d5, d6, d7, d8, d9, d10] ∧ h = (dkF g).h s [] ∧ (dkF g).ok s) _ 0 _ _ ⟨_, _, _, _, _, _, _, _, s, rfl, rfl, ok⟩ ?_ ?_
    · rintro w d' st h e2 ⟨d3, d4, d5, d6, d7, d8, d9, d10, s, rfl, rfl, ok⟩
      obtain ⟨rfl, hw⟩ := rangeL_get e2
      have w5 : w < 5 := by omega
      have w12 : w < 12 := by omega
      refine ⟨rfl, ?_⟩
      refine FF.x_stepL ?_
      refine FF.OkO.of rfl ?_
      refine FF.x_cons ?_
      refine FF.x_set ?_
      refine FF.x_tup ?_
      refine FF.x_acons ?_
      refine FF.x_call ?_
      refine FF.x_acons ?_
      refine FF.x_var (by rfl) ?_
      refine FF.x_acons ?_
      refine FF.x_const ?_
      refine FF.x_anil ?_
      try dsimp only [List.set_cons_zero, List.set_cons_succ]
      refine (ha s [] ok rfl).mono ?_
      rintro ⟨x, _⟩ ⟨s1, e1, ok, hx⟩
      dsimp only at e1 hx
      subst e1
      have hx := hx.mono (n' := 2900) (k' := 7) (by decide) (by decide)
      refine FF.x_acons ?_
      refine FF.x_cmp ?_
      refine FF.x_call ?_
      refine FF.x_acons ?_
      refine FF.x_var (by rfl) ?_
      refine FF.x_acons ?_
      refine FF.x_const ?_
      refine FF.x_anil ?_
      try dsimp only [List.set_cons_zero, List.set_cons_succ]
      refine (fdraw hd (many := 2) (by decide) (by decide +kernel) s1 [] ok rfl).mono ?_
      rintro ⟨_, _⟩ ⟨s2, e1, ok, z, e3, z0, z1⟩
      dsimp only at e1 e3
      subst e1; subst e3
      refine FF.x_const ?_
      refine FF.OkO.of rfl ?_
      refine FF.x_anil ?_
      refine FF.OkO.of rfl ?_
      refine FF.OkO.of rfl ?_
      refine FF.nxt_nx ?_
      try dsimp only [List.set_cons_zero, List.set_cons_succ]
      refine FF.x_cons ?_
      refine FF.x_set ?_
      refine FF.x_bi ?_
      refine FF.x_acons ?_
      refine FF.x_var (by rfl) ?_
      refine FF.x_anil ?_
      try dsimp only [List.set_cons_zero, List.set_cons_succ]
      refine hx.repr (by decide) (by decide) ?_
      refine FF.OkO.of rfl ?_
      refine FF.nxt_nx ?_
      try dsimp only [List.set_cons_zero, List.set_cons_succ]
      refine FF.x_cons ?_
      refine FF.x_set ?_
      refine FF.x_call ?_
      refine FF.x_acons ?_
      refine FF.x_var (by rfl) ?_
      refine FF.x_acons ?_
      refine FF.x_var (by rfl) ?_
      refine FF.x_acons ?_
      refine FF.x_var (by rfl) ?_
      refine FF.x_anil ?_
      try dsimp only [List.set_cons_zero, List.set_cons_succ]
      rw [show ((0 : Int) + (w : Int)) = ((w : Nat) : Int) by omega]
      refine (h527 w x _ _ w5 hx.pure).mono ?_
      rintro _ rfl
      refine FF.OkO.of rfl ?_
      refine FF.nxt_nx ?_
      try dsimp only [List.set_cons_zero, List.set_cons_succ]
      refine FF.x_cons ?_
      refine FF.x_set ?_
      refine FF.x_call ?_
      refine FF.x_acons ?_
      refine FF.x_var (by rfl) ?_
      refine FF.x_acons ?_
      refine FF.x_var (by rfl) ?_
      refine FF.x_acons ?_
      refine FF.x_not ?_
      refine FF.x_var (by rfl) ?_
      refine FF.OkO.of rfl ?_
      refine FF.x_anil ?_
      try dsimp only [List.set_cons_zero, List.set_cons_succ]
      refine (h527 w x _ _ w5 hx.pure).mono ?_
      rintro _ rfl
      refine FF.OkO.of rfl ?_
      refine FF.nxt_nx ?_
      try dsimp only [List.set_cons_zero, List.set_cons_succ]
      refine FF.x_cons ?_
      refine FF.x_ite ?_
      refine FF.x_or ?_
      refine FF.x_cmp ?_
      refine FF.x_bi ?_
      refine FF.x_acons ?_
      refine FF.x_lst ?_
      refine FF.x_acons ?_
      refine FF.x_var (by rfl) ?_
      refine FF.x_acons ?_
      refine FF.x_var (by rfl) ?_
      refine FF.x_acons ?_
      refine FF.x_var (by rfl) ?_
      refine FF.x_anil ?_
      refine FF.OkO.of rfl ?_
      refine FF.x_anil ?_
      try dsimp only [List.set_cons_zero, List.set_cons_succ]
      have R3 : VF (2901 * 3) 8 (.lst [x, x, x]) := vf_lst (n := 2900) (k := 7) (l := 3) (fun d hd => by
        simp only [List.mem_cons, List.not_mem_nil, or_false] at hd
        rcases hd with rfl | rfl | rfl <;> assumption) (by simp)
      refine R3.repr (by decide) (by decide) ?_
      refine FF.x_bi ?_
      refine FF.x_acons ?_
      refine FF.x_lst ?_
      refine FF.x_acons ?_
      refine FF.x_var (by rfl) ?_
      refine FF.x_acons ?_
      refine FF.x_var (by rfl) ?_
      refine FF.x_acons ?_
      refine FF.x_var (by rfl) ?_
      refine FF.x_anil ?_
      refine FF.OkO.of rfl ?_
      refine FF.x_anil ?_
      try dsimp only [List.set_cons_zero, List.set_cons_succ]
      refine R3.repr (by decide) (by decide) ?_
      refine FF.OkO.of rfl ?_
      refine FF.OkO.of rfl ?_
      try dsimp only [List.set_cons_zero, List.set_cons_succ]
      rw [beqS]
      refine FF.Cd.ff ?_
      refine FF.x_cmp ?_
      refine FF.x_bi ?_
      refine FF.x_acons ?_
      refine FF.x_var (by rfl) ?_
      refine FF.x_anil ?_
      try dsimp only [List.set_cons_zero, List.set_cons_succ]
      refine hx.repr (by decide) (by decide) ?_
      refine FF.x_var (by rfl) ?_
      refine FF.OkO.of rfl ?_
      refine FF.OkO.of rfl ?_
      try dsimp only [List.set_cons_zero, List.set_cons_succ]
      rw [beqS]
      refine FF.Cd.ff ?_
      refine FF.x_nil ?_
      refine FF.nxt_nx ?_
      try dsimp only [List.set_cons_zero, List.set_cons_succ]
      refine FF.x_cons ?_
      refine FF.x_ite ?_
      refine FF.x_or ?_
      refine FF.x_not ?_
      refine FF.x_call ?_
      refine FF.x_acons ?_
      refine FF.x_var (by rfl) ?_
      refine FF.x_acons ?_
      refine FF.x_var (by rfl) ?_
      refine FF.x_anil ?_
      try dsimp only [List.set_cons_zero, List.set_cons_succ]
      refine (h528 w [x] _ w12 (by simp [D.pures, hx.pure])).mono ?_
      rintro _ rfl
      refine FF.OkO.of rfl ?_
      refine FF.OkO.of rfl ?_
      refine FF.Cd.ff ?_
      refine FF.x_not ?_
      refine FF.x_call ?_
      refine FF.x_acons ?_
      refine FF.x_var (by rfl) ?_
      refine FF.x_acons ?_
      refine FF.x_var (by rfl) ?_
      refine FF.x_anil ?_
      try dsimp only [List.set_cons_zero, List.set_cons_succ]
      refine (h528 w [x] _ w12 (by simp [D.pures, hx.pure])).mono ?_
      rintro _ rfl
      refine FF.OkO.of rfl ?_
      refine FF.OkO.of rfl ?_
      refine FF.Cd.ff ?_
      refine FF.x_nil ?_
      refine FF.nxt_nx ?_
      try dsimp only [List.set_cons_zero, List.set_cons_succ]
      refine FF.x_nil ?_
      try dsimp only [List.set_cons_zero, List.set_cons_succ]
      exact ⟨_, _, _, _, _, _, _, _, s2, rfl, rfl, ok⟩
    · rintro st h ⟨d3, d4, d5, d6, d7, d8, d9, d10, s, rfl, rfl, ok⟩
      refine ⟨rfl, ?_⟩
      refine FF.nxt_nx ?_
      try dsimp only [List.set_cons_zero, List.set_cons_succ]
      refine FF.x_nil ?_
      try dsimp only [List.set_cons_zero, List.set_cons_succ]
      exact ⟨_, _, _, _, _, _, _, _, _, s, rfl, rfl, ok⟩
  · rintro st h ⟨d2, d3, d4, d5, d6, d7, d8, d9, d10, s, rfl, rfl, ok⟩
    refine ⟨rfl, ?_⟩
    refine FF.nxt_nx ?_
    try dsimp only [List.set_cons_zero, List.set_cons_succ]
    refine FF.x_cons ?_
    refine FF.x_for ?_
    refine FF.x_range2 ?_
    refine FF.x_const ?_
    refine FF.x_const ?_
    refine FF.o_rng2 (by decide) (by decide) (by decide) (by decide) ?_
    try dsimp only [List.set_cons_zero, List.set_cons_succ]
    refine wp_loopF (fun k st h => ∃ (d3 : Option D), st = [some (.scr ns), some (.ref 1), d2, d3, d4, d5, d6, d7, d8, d9, d10] ∧ h = (dkF g).h s []) _ 0 _ _ ⟨_, rfl, rfl⟩ ?_ ?_
    · rintro w d' st h e2 ⟨d3, rfl, rfl⟩
      obtain ⟨rfl, hw⟩ := rangeL_get e2
      refine ⟨rfl, ?_⟩
      refine FF.x_stepL ?_
      refine FF.OkO.of rfl ?_
      refine FF.x_cons ?_
      refine FF.x_ite ?_
      refine FF.x_not ?_
      refine FF.x_call ?_
      refine FF.x_acons ?_
      refine FF.x_var (by rfl) ?_
      refine FF.x_acons ?_
      refine FF.x_call ?_
      refine FF.x_acons ?_
      refine FF.x_var (by rfl) ?_
      refine FF.x_anil ?_
      try dsimp only [List.set_cons_zero, List.set_cons_succ]
      rw [show ((5 : Int) + (w : Int)) = ((5 + w : Nat) : Int) by omega]
      refine (h530 (5 + w) _ (by omega) (by omega)).mono ?_
      rintro _ rfl
      refine FF.x_anil ?_
      try dsimp only [List.set_cons_zero, List.set_cons_succ]
      refine (h528 (5 + w) [] _ (by omega) rfl).mono ?_
      rintro _ rfl
      refine FF.OkO.of rfl ?_
      refine FF.OkO.of rfl ?_
      refine FF.Cd.ff ?_
      refine FF.x_nil ?_
      refine FF.nxt_nx ?_
      try dsimp only [List.set_cons_zero, List.set_cons_succ]
      refine FF.x_nil ?_
      try dsimp only [List.set_cons_zero, List.set_cons_succ]
      exact ⟨_, rfl, rfl⟩
    · rintro st h ⟨d3, rfl, rfl⟩
      refine ⟨rfl, ?_⟩
      refine FF.nxt_nx ?_
      try dsimp only [List.set_cons_zero, List.set_cons_succ]
      refine FF.x_cons ?_
      refine FF.x_ret ?_
      refine FF.x_not ?_
      refine FF.x_const ?_
      refine FF.OkO.of rfl ?_
      refine FF.nxt_rt ?_
      try dsimp only [List.set_cons_zero, List.set_cons_succ]
      refine FF.end_rt ?_
      try dsimp only [List.set_cons_zero, List.set_cons_succ]
      exact thaw1_pure rfl
theorem deck_at (n : Nat) : DkDeckOk (run tbl (n + 1) 526) := (dkdeck_ok (by decide) (by decide) : DkDeckOk (runDef (run tbl n) (dkDeckDef 538542)))
theorem draw_at (n : Nat) (g : Nat) : FDrawOk (dkF g) (run tbl (n + 1) 68) := (dkdraw_ok : FDrawOk (dkF g) (runDef (run tbl n) R_dkdraw))
theorem pick_at (n : Nat) (g : Nat) : FPickOk (dkF g) (run tbl (n + 2) 69) := (fpick_ok (draw_at n g) : FPickOk (dkF g) (runDef (run tbl (n + 1)) (pickDef 68 "deck" "some")))
theorem any_at (g : Nat) : ∀ (d n : Nat), AnyOk (dkF g) d (run tbl (n + 3 + d) 529)
  | 0, n => (any_ok (draw_at (n + 1) g) (pick_at n g) 0 (fun e h => by cases h) : AnyOk (dkF g) 0 (runDef (run tbl (n + 2)) d_q_law_any))
  | d + 1, n => (any_ok (φ := run tbl (n + 3 + d)) (by rw [show n + 3 + d = (n + 2 + d) + 1 by omega]; exact draw_at _ g) (by rw [show n + 3 + d = (n + 1 + d) + 2 by omega]; exact pick_at _ g) (d + 1) (fun e h => by cases h; exact any_at g d n) : AnyOk (dkF g) (d + 1) (runDef (run tbl (n + 3 + d)) d_q_law_any))
theorem made_at (n : Nat) : MadeOk (run tbl (n + 1) 527) := (made_ok : MadeOk (runDef (run tbl n) d_q_law_made))
theorem isk_at (n : Nat) : IsKOk (run tbl (n + 1) 528) := (isk_ok : IsKOk (runDef (run tbl n) d_q_law_is_kind))
theorem bare_at (n : Nat) : BareOk (run tbl (n + 1) 530) := (bare_ok : BareOk (runDef (run tbl n) d_q_law_bare))
theorem told : ∀ ns : List Int, ns.length ≤ 63 → (∀ z ∈ ns, Builtin.Int.intBits z ≤ 1048576) → ∃ h', run tbl 6 531 [.scr ns] [] = .ok (.bl true, h') := by
  intro ns hl _
  obtain ⟨p, e, rfl⟩ := law_ok (φ := run tbl 5) (deck_at 4) (draw_at 4) (fun g => any_at g 2 0) (made_at 4) (isk_at 4) (bare_at 4) hl
  have z : run tbl 6 531 = runDef (run tbl 5) d_law := rfl
  rw [z]
  exact ⟨_, e⟩
end FF.k54

open PySem PySem.W PyProof.Rows
set_option maxHeartbeats 0 in
theorem PySem.Challenge.cw_fallingfields_k54_errors_of_all_classes_holds : PySem.Challenge.rw_fallingfields_k54_errors_of_all_classes.Holds := by
  w_on; o_law; k_head; (case hw => w_witness2)
  k_fill
  refine FF.law_walk (l := PySem.Challenge.rw_fallingfields_k54_errors_of_all_classes) (n := 63) (k := 6) (x := "script") (fx := FF.run FF.k54.tbl 6 531) rfl (by decide) rfl ⟨rfl, by decide, by decide⟩ FF.k54.told (fun w h Y => PySem.W.kIn_of Y) (fun _ => by kernel_rfl) ?F
  case F =>
    intro w mg fa h KX G hmg
    refine' FF.k54.head_mk KX G hmg ?a0 ?l0 ?c0 ?k0 ?a1 ?l1 ?c1 ?k1 ?a2 ?l2 ?c2 ?k2 ?a3 ?l3 ?c3 ?k3 ?a4 ?l4 ?c4 ?k4 ?a5 ?l5 ?c5 ?k5 ?a6 ?l6 ?c6 ?k6 ?a7 ?l7 ?c7 ?k7 ?z0 ?z1 ?z2 ?z3 ?z4 ?z5 ?z6 ?z7 ?xg_BadBook ?xg_TooMany ?xg_Unlevel ?xg_NoVersion ?xg_BadLog ?xg_Unfit ?xg_BadText ?xg_Level ?xg_Few ?xg_TooManyEdits ?xg_NothingToUndo ?xg_NothingToRedo ?xg_FieldsError ?xi_BadBook ?xl_BadBook ?xk_BadBook ?xe_BadBook ?xv_BadBook ?xf_BadBook ?xa_BadBook ?xb_BadBook ?xi_TooMany ?xl_TooMany ?xk_TooMany ?xe_TooMany ?xv_TooMany ?xf_TooMany ?xa_TooMany ?xb_TooMany ?xi_Unlevel ?xl_Unlevel ?xk_Unlevel ?xe_Unlevel ?xv_Unlevel ?xf_Unlevel ?xa_Unlevel ?xb_Unlevel ?xi_NoVersion ?xl_NoVersion ?xk_NoVersion ?xe_NoVersion ?xv_NoVersion ?xf_NoVersion ?xa_NoVersion ?xb_NoVersion ?xi_BadLog ?xl_BadLog ?xk_BadLog ?xe_BadLog ?xv_BadLog ?xf_BadLog ?xa_BadLog ?xb_BadLog ?xa_Unfit ?xa_BadText ?xa_Level ?xa_Few ?xa_TooManyEdits ?xa_NothingToUndo ?xa_NothingToRedo ?xs ?xt ?xw_BadBook ?xw_TooMany ?xw_Unlevel ?xw_NoVersion ?xw_BadLog ?xq_BadBook ?xq_TooMany ?xq_Unlevel ?xq_NoVersion ?xq_BadLog ?xq_Unfit ?xq_BadText ?xq_Level ?xq_Few ?xq_TooManyEdits ?xq_NothingToUndo ?xq_NothingToRedo ?xq_ValueError ?xq_FieldsError ?xw_Unfit ?xw_BadText ?xw_Level ?xw_Few ?xw_TooManyEdits ?xw_NothingToUndo ?xw_NothingToRedo ?kv_VE_FieldsError
    (case a0 => k_is)
    (case l0 => k_is)
    (case c0 => k_is)
    (case k0 => k_is)
    (case a1 => k_is)
    (case l1 => k_is)
    (case c1 => k_is)
    (case k1 => k_is)
    (case a2 => k_is)
    (case l2 => k_is)
    (case c2 => k_is)
    (case k2 => k_is)
    (case a3 => k_is)
    (case l3 => k_is)
    (case c3 => k_is)
    (case k3 => k_is)
    (case a4 => k_is)
    (case l4 => k_is)
    (case c4 => k_is)
    (case k4 => k_is)
    (case a5 => k_is)
    (case l5 => k_is)
    (case c5 => k_is)
    (case k5 => k_is)
    (case a6 => k_is)
    (case l6 => k_is)
    (case c6 => k_is)
    (case k6 => k_is)
    (case a7 => k_is)
    (case l7 => k_is)
    (case c7 => k_is)
    (case k7 => k_is)
    (case z0 => k_is)
    (case z1 => k_is)
    (case z2 => k_is)
    (case z3 => k_is)
    (case z4 => k_is)
    (case z5 => k_is)
    (case z6 => k_is)
    (case z7 => k_is)
    (case xg_BadBook => k_is)
    (case xg_TooMany => k_is)
    (case xg_Unlevel => k_is)
    (case xg_NoVersion => k_is)
    (case xg_BadLog => k_is)
    (case xg_Unfit => k_is)
    (case xg_BadText => k_is)
    (case xg_Level => k_is)
    (case xg_Few => k_is)
    (case xg_TooManyEdits => k_is)
    (case xg_NothingToUndo => k_is)
    (case xg_NothingToRedo => k_is)
    (case xg_FieldsError => k_is)
    (case xi_BadBook => k_is)
    (case xl_BadBook => k_is)
    (case xk_BadBook => k_is)
    (case xe_BadBook => k_is)
    (case xv_BadBook => exact rfl)
    (case xf_BadBook => kernel_rfl)
    (case xa_BadBook => kernel_rfl)
    (case xb_BadBook => kernel_rfl)
    (case xi_TooMany => k_is)
    (case xl_TooMany => k_is)
    (case xk_TooMany => k_is)
    (case xe_TooMany => k_is)
    (case xv_TooMany => exact rfl)
    (case xf_TooMany => kernel_rfl)
    (case xa_TooMany => kernel_rfl)
    (case xb_TooMany => kernel_rfl)
    (case xi_Unlevel => k_is)
    (case xl_Unlevel => k_is)
    (case xk_Unlevel => k_is)
    (case xe_Unlevel => k_is)
    (case xv_Unlevel => exact rfl)
    (case xf_Unlevel => kernel_rfl)
    (case xa_Unlevel => kernel_rfl)
    (case xb_Unlevel => kernel_rfl)
    (case xi_NoVersion => k_is)
    (case xl_NoVersion => k_is)
    (case xk_NoVersion => k_is)
    (case xe_NoVersion => k_is)
    (case xv_NoVersion => exact rfl)
    (case xf_NoVersion => kernel_rfl)
    (case xa_NoVersion => kernel_rfl)
    (case xb_NoVersion => kernel_rfl)
    (case xi_BadLog => k_is)
    (case xl_BadLog => k_is)
    (case xk_BadLog => k_is)
    (case xe_BadLog => k_is)
    (case xv_BadLog => exact rfl)
    (case xf_BadLog => kernel_rfl)
    (case xa_BadLog => kernel_rfl)
    (case xb_BadLog => kernel_rfl)
    (case xa_Unfit => kernel_rfl)
    (case xa_BadText => kernel_rfl)
    (case xa_Level => kernel_rfl)
    (case xa_Few => kernel_rfl)
    (case xa_TooManyEdits => kernel_rfl)
    (case xa_NothingToUndo => kernel_rfl)
    (case xa_NothingToRedo => kernel_rfl)
    (case xs => k_is)
    (case xt => kernel_rfl)
    (case xw_BadBook => kernel_rfl)
    (case xw_TooMany => kernel_rfl)
    (case xw_Unlevel => kernel_rfl)
    (case xw_NoVersion => kernel_rfl)
    (case xw_BadLog => kernel_rfl)
    (case xq_BadBook => kernel_rfl)
    (case xq_TooMany => kernel_rfl)
    (case xq_Unlevel => kernel_rfl)
    (case xq_NoVersion => kernel_rfl)
    (case xq_BadLog => kernel_rfl)
    (case xq_Unfit => kernel_rfl)
    (case xq_BadText => kernel_rfl)
    (case xq_Level => kernel_rfl)
    (case xq_Few => kernel_rfl)
    (case xq_TooManyEdits => kernel_rfl)
    (case xq_NothingToUndo => kernel_rfl)
    (case xq_NothingToRedo => kernel_rfl)
    (case xq_ValueError => kernel_rfl)
    (case xq_FieldsError => kernel_rfl)
    (case xw_Unfit => kernel_rfl)
    (case xw_BadText => kernel_rfl)
    (case xw_Level => kernel_rfl)
    (case xw_Few => kernel_rfl)
    (case xw_TooManyEdits => kernel_rfl)
    (case xw_NothingToUndo => kernel_rfl)
    (case xw_NothingToRedo => kernel_rfl)
    (case kv_VE_FieldsError => kernel_rfl)
